import PyProof.Rows.All
import HandS.Head0
import HandS.Head1
import HandS.Head2
import HandS.Head3
import KE.KNestM
import PySem.Challenge.RW_latechunks_k30_whole_small_lists_over_al
import Wide.All
import OpenK.AllK
import Wide.FinOn
import HandS.ForMost
import HandS.Wide
import HandS.IsInst
import HandS.Defaults
import HandS.Evl
import HandS.EndTab
import HandS.Lambda
import HandS.Style
import HandS.Steps
import HandS.Text
import PyProof.ReprRoads
import PyProof.ListStr
import PyProof.StrOps2
import HandS.Walk
import HandS.ExcInit
import HandS.Nested
import HandS.ExcValue
import KE.KExcSuper
import HandS.ExcIs
import HandS.ExcField
import KE.KOpsOwn
import PyProof.Rows.Range3
import PyProof.Conv_bool
import HandS.HotCalls
import PyProof.EqAt
import HandS.ClsMeth
import HandS.MakeKwOnly
import HandS.FStr
import KE.KCallOwn
import PyProof.Rows.StrOr
import PyProof.TypeEq
import HandS.DeepEq
import KE.KEqDict
import HandS.Star
import HandS.Zip
import HandS.Flow
import HandS.TupMul
import OpenK.KOps
import HandS.TupAny
import HandS.SortInts
import HandS.IterVal
import OpenK.KMeth
import KE.KOwnIter
import PyProof.SliceList
import PyProof.IsiBase
import HandS.OwnEq
import HandS.Gcd
import HandS.Deep
import HandS.DictComp
import KE.KFmtOwn
import PyProof.CallStr
import KE.GoesMore
import KE.GoesEnum
import HandS.Iter
import HandS.MakeKw
import HandS.Small
import HandS.OwnIter
import HandS.ListItems
import HandS.Flt
import HandS.Strs
import HandS.SetFor
import KE.KItemsList
import KE.KPairComp
import PyProof.Walk
import PyProof.WalkLemmas
import HandS.Records
set_option Elab.async false
set_option linter.all false
set_option maxRecDepth 100000
set_option maxHeartbeats 4000000
section
namespace L3
open PySem PySem.W
def looseN : List PySem.Str := (["_wall", "MOST_SIZE", "SIGNS", "WORDS", "is_integer", "is_within", "is_size", "is_name", "LateError", "BadName", "BadSize", "BadSpeed", "BadCost", "BadFee", "BadRatio", "BadRest", "BadChunks", "BadCrew", "BadSetting", "BadText", "NoWorker", "NoChunk", "TooMany", "MOST_FIGURES", "number_of", "is_figures", "MOST_CHUNKS", "MOST_ITEMS", "need_size", "need_few"] : List PySem.Str) ++ (["need_other", "need_other_chunks", "ends_of", "between", "Chunks", "read_sizes", "common", "Ratio", "told_of", "above", "quotient", "remainder", "MOST_WORKERS", "MOST_SPEED", "is_speed", "need_speed", "need_speeds", "need_other_crews", "first_with", "Crew", "read_speeds", "MOST_COST", "MOST_FEE", "need_spot", "need_other_settings", "Setting", "behind_stroke", "number_at", "need_list", "rows_of"] : List PySem.Str) ++ (["place_of_greatest", "lateness", "_law_pen", "_law_draw", "_law_pick", "_law_drawn_plan", "_law_setting", "_law_three", "_law_late", "_law_under", "_law_is", "_law_sizes", "_law_rests", "_law_lates", "_law_common", "_law_played", "_law_offered", "_law_is_later", "_law_all_costs", "_law_worst", "_law_right"] : List PySem.Str)
end L3
open PySem PySem.W PyProof.Rows
open PySem.Calls HandSHeadRun
theorem K30H.runA (w : World) : (wholeF (fun p => stepQ (denQ tabQ) p w) fenceQ 30000 (OpenLaw.row PySem.Challenge.rw_latechunks_k30_whole_small_lists_over_al).prog).map (fun x => looksF (OpenLaw.row PySem.Challenge.rw_latechunks_k30_whole_small_lists_over_al).prog x.1.heap x.2.abs) = some true := by
  kernel_rfl
theorem K30H.runB (w : World) : (wholeF (fun p => stepQ (denQ tabQ) p w) fenceQ 30000 (OpenLaw.row PySem.Challenge.rw_latechunks_k30_whole_small_lists_over_al).prog).map (fun x => seenQ (view (OpenLaw.row PySem.Challenge.rw_latechunks_k30_whole_small_lists_over_al).prog [92]) L3.looseN (importedModules (OpenLaw.row PySem.Challenge.rw_latechunks_k30_whole_small_lists_over_al).prog.main.body) (fun s => xlAt (view (OpenLaw.row PySem.Challenge.rw_latechunks_k30_whole_small_lists_over_al).prog [92]) [] s && recOk (OpenRow.toRowW (OpenLaw.row PySem.Challenge.rw_latechunks_k30_whole_small_lists_over_al)).records s) x.2.abs) = some (openGood (view (OpenLaw.row PySem.Challenge.rw_latechunks_k30_whole_small_lists_over_al).prog [92]) L3.looseN) := by
  kernel_rfl
end
section
namespace L3
open PySem PySem.Spec PyProof.Rows L2
def PenO (a c : Addr) (n : Nat) : HO := .ext fun h => ∃ (spot rest : Int) (t u : Tok) (k : Nat),
  h.get? a = some { cls := .type "list", data := .seq #[.ref c, .int spot t, .int rest u] k } ∧ 0 ≤ spot ∧ spot ≤ n
theorem PenO_ok {P : Program} {w : World} {H : Hp} {h : Heap} {a c : Addr} {n : Nat} {spot rest : Int} {t u : Tok} {k : Nat}
    (e : h.get? a = some { cls := .type "list", data := .seq #[.ref c, .int spot t, .int rest u] k }) (h0 : 0 ≤ spot) (h1 : spot ≤ n) :
    ObjOk P w H h a (PenO a c n) :=
  ⟨⟨spot, rest, t, u, k, e, h0, h1⟩, ⟨_, e⟩, fun _ _ ⟨s, r, t, u, k, q, z⟩ f => ⟨s, r, t, u, k, f _ q, z⟩⟩
section
variable {X : Cx} {pins : List (Addr × Obj)} {σ : L2.St} {H : Hp} {s : Shared}
theorem Inv.penOpen {a c : Addr} {n : Nat} (I : Inv X pins σ H s) (h : H a = some (PenO a c n)) :
    ∃ spot rest : Int, 0 ≤ spot ∧ spot ≤ n ∧ Inv X pins σ (upd H a (.lst [.ref c, .int spot, .int rest])) s := by
  obtain ⟨⟨spot, rest, t, u, k, e, h0, h1⟩, _, _⟩ := (show ObjOk X.prog X.w H s.heap a (PenO a c n) from I.hok a _ h)
  refine ⟨spot, rest, h0, h1, ?_⟩
  have mu : Mut (H a) := by rw [h]; exact True.intro
  have := I.write (t' := s.toks) (h' := s.heap) (x := a) (e := a) (o := .lst [.ref c, .int spot, .int rest]) mu (.inl rfl) (fun _ _ _ q => q) ⟨_, e⟩
    ⟨(by rw [sizeLine_eq]; show 3 ≤ 16777216; decide), [.ref c, .int spot t, .int rest u], k, .cons rfl (.cons ⟨t, rfl⟩ (.cons ⟨u, rfl⟩ .nil)), e⟩
  exact this
theorem vals3 {x y z : V} {us : List Value} (r : Vals [x, y, z] us) : ∃ u v w, us = [u, v, w] ∧ RelV x u ∧ RelV y v ∧ RelV z w := by
  cases r with
  | cons r1 r =>
    cases r with
    | cons r2 r =>
      cases r with
      | cons r3 r =>
        cases r
        exact ⟨_, _, _, rfl, r1, r2, r3⟩
theorem Inv.penClose {a c : Addr} {n : Nat} {spot rest : Int} (I : Inv X pins σ H s) (h : H a = some (.lst [.ref c, .int spot, .int rest])) (h0 : 0 ≤ spot) (h1 : spot ≤ n) :
    Inv X pins σ (upd H a (PenO a c n)) s := by
  obtain ⟨_, its, k, r, e⟩ := (show ObjOk X.prog X.w H s.heap a (.lst _) from I.hok a _ h)
  obtain ⟨u, v, w, rfl, r1, ⟨t, r2⟩, ⟨t', r3⟩⟩ := vals3 r
  cases (show u = .ref c from r1)
  subst r2 r3
  have mu : Mut (H a) := by rw [h]; exact True.intro
  exact I.write (t' := s.toks) (h' := s.heap) (x := a) (e := a) (o := PenO a c n) mu (.inl rfl) (fun _ _ _ q => q) ⟨_, e⟩ (PenO_ok e h0 h1)
end
/-- inside: the list is known, behind: it is hidden again -/
def penBack (a c : Addr) (n : Nat) (P : Hp → Prop) (H : Hp) : Prop := ∃ spot rest : Int, H a = some (.lst [.ref c, .int spot, .int rest]) ∧ 0 ≤ spot ∧ spot ≤ n ∧ P (upd H a (PenO a c n))
def tPen (a c : Addr) (n m : Nat) (t : TS) : TS := fun D σ H => H a = some (PenO a c n) ∧ ∀ spot rest : Int, 0 ≤ spot → spot ≤ n →
  t { nx := fun σ' => penBack a c m (D.nx σ'), rt := fun v => penBack a c m (D.rt v), bk := fun σ' => penBack a c m (D.bk σ'), ct := fun σ' => penBack a c m (D.ct σ') } σ (upd H a (.lst [.ref c, .int spot, .int rest]))
theorem pss_pen {X : Cx} {sts : List Stmt} {t : TS} (a c : Addr) (n m : Nat) (h : PSs X sts t) : PSs X sts (tPen a c n m t) := by
  refine ⟨fun pins s σ H D I hw => ?_⟩
  obtain ⟨ha, hw⟩ := hw
  obtain ⟨spot, rest, h0, h1, I1⟩ := Inv.penOpen I ha
  refine thn (h.run pins s σ _ _ I1 (hw spot rest h0 h1)) fun f s' q => ?_
  cases f with
  | next =>
    obtain ⟨σ', H', I', sp, re, e, g0, g1, z⟩ := q
    exact ⟨σ', _, Inv.penClose I' e g0 g1, z⟩
  | brk =>
    obtain ⟨σ', H', I', sp, re, e, g0, g1, z⟩ := q
    exact ⟨σ', _, Inv.penClose I' e g0 g1, z⟩
  | cont =>
    obtain ⟨σ', H', I', sp, re, e, g0, g1, z⟩ := q
    exact ⟨σ', _, Inv.penClose I' e g0 g1, z⟩
  | ret u =>
    obtain ⟨v, σ', H', I', r, sp, re, e, g0, g1, z⟩ := q
    exact ⟨v, σ', _, Inv.penClose I' e g0 g1, r, z⟩
end L3
namespace L3
open PySem PySem.Spec PyProof.Rows L2
section
variable {σ : L2.St} {H : Hp} {D : Ends} {t u : TS} {te ta tb : TE} {Q : VK} {v x y : V} {K : PySem.W.Frag}
theorem iteB {b : Bool} {A B : Prop} (h1 : b = true → A) (h2 : b = false → B) : if b = true then A else B := by
  cases b with
  | true => exact iteT (h1 rfl)
  | false => exact iteF (h2 rfl)
theorem iteD {c : Prop} {_ : Decidable c} {A B : Prop} (h1 : c → A) (h2 : ¬ c → B) : if decide c = true then A else B := iteB (fun h => h1 (of_decide_eq_true h)) (fun h => h2 (of_decide_eq_false h))
theorem iteND {c : Prop} {_ : Decidable c} {A B : Prop} (h1 : ¬ c → A) (h2 : c → B) : if (!decide c) = true then A else B := iteB (fun h => h1 (by simpa using h)) (fun h => h2 (by simpa using h))
theorem s_seq (h : t { D with nx := u D } σ H) : tSeq t u D σ H := h
theorem s_next (h : D.nx σ H) : tNext D σ H := h
theorem s_asg {i : Nat} (h : te σ H fun x H1 => D.nx (σ.set i (some x)) H1) : tAsg te (gName i) D σ H := h
theorem s_asgS {to ti : TE} {t : TSet} (h : te σ H fun v H1 => to σ H1 fun o H2 => ti σ H2 fun i H3 => t o i v H3 fun H4 => D.nx σ H4) : tAsg te (gSub to ti t) D σ H := h
theorem s_drop (h : te σ H fun _ H1 => D.nx σ H1) : tDrop te D σ H := h
theorem s_ret (h : te σ H D.rt) : tRet te D σ H := h
theorem s_retN (h : D.rt .non H) : tRetN D σ H := h
theorem s_if {c : TT} (h : c σ H fun b H1 => if b = true then t D σ H1 else u D σ H1) : tIfS c t u D σ H := h
theorem s_var {i : Nat} (e : σ[i]? = some (some v)) (h : Q v H) : tVar i σ H Q := ⟨v, e, h⟩
theorem s_c (h : Q v H) : tC v σ H Q := h
theorem s_op {r : R2} (h : ta σ H fun x H1 => tb σ H1 fun y H2 => r x y H2 Q) : tOp r ta tb σ H Q := h
theorem s_un {r : V → Hp → VK → Prop} (h : ta σ H fun x H1 => r x H1 Q) : tUn r ta σ H Q := h
theorem s_cb {r : List V → Hp → VK → Prop} {tt : TA} (h : tt σ H fun vs H1 => r vs H1 Q) : tCB r tt σ H Q := h
theorem s_nil {Q : List V → Hp → Prop} (h : Q [] H) : tNil σ H Q := h
theorem s_cons {Q : List V → Hp → Prop} {tr : TA} (h : ta σ H fun x H1 => tr σ H1 fun xs H2 => Q (x :: xs) H2) : tCons ta tr σ H Q := h
theorem s_test {Q : Bool → Hp → Prop} (h : te σ H fun x H' => ∃ k, x = .bl k ∧ Q k H') : tTest te σ H Q := h
theorem s_tB {Q : Bool → Hp → Prop} (h : te σ H fun x H' => ∃ k, x = .bl k ∧ Q k H') : tB te σ H Q := h
theorem s_bl {R : Bool → Prop} {b : Bool} (h : R b) : ∃ k, V.bl b = .bl k ∧ R k := ⟨b, rfl, h⟩
theorem s_and {c d : TT} {Q : Bool → Hp → Prop} (h : c σ H fun b H1 => if b = true then d σ H1 Q else Q false H1) : tAnd c d σ H Q := h
theorem s_or {c d : TT} {Q : Bool → Hp → Prop} (h : c σ H fun b H1 => if b = true then Q true H1 else d σ H1 Q) : tOr c d σ H Q := h
theorem s_not {c : TT} {Q : Bool → Hp → Prop} (h : c σ H fun b H1 => Q (!b) H1) : tNot c σ H Q := h
theorem s_andV (h : ta σ H fun x H1 => ∃ c, x = .bl c ∧ if c = true then tb σ H1 Q else Q (.bl false) H1) : tAndV ta tb σ H Q := h
theorem s_orV (h : ta σ H fun x H1 => ∃ c, x = .bl c ∧ if c = true then Q (.bl true) H1 else tb σ H1 Q) : tOrV ta tb σ H Q := h
theorem s_notV (h : ta σ H fun x H1 => ∃ c, x = .bl c ∧ Q (.bl (!c)) H1) : tNotV ta σ H Q := h
theorem s_ifE {c : TT} (h : c σ H fun b H1 => if b = true then ta σ H1 Q else tb σ H1 Q) : tIf c ta tb σ H Q := h
theorem s_call {sp : Sp} {dvs : List V} {E : XK} {tt : TA} (h : tt σ H fun vs H1 => sp (vs ++ dvs) H1 Q E) : tCall sp dvs E tt σ H Q := h
theorem s_I0 {g : Int → Int → V} {i j : Int} (h : Q (g i j) H) : rI0 g (.int i) (.int j) H Q := ⟨i, j, rfl, rfl, h⟩
theorem s_I {C : Int → Int → Prop} {g : Int → Int → V} {i j : Int} (c : C i j) (h : Q (g i j) H) : rI C g (.int i) (.int j) H Q := ⟨i, j, rfl, rfl, c, h⟩
theorem s_U {g : Int → V} {i : Int} (h : Q (g i) H) : rU g (.int i) H Q := ⟨i, rfl, h⟩
theorem s_setL {p : Addr} {xs : List V} {i : Int} {j : Nat} {R : Hp → Prop} (hp : H p = some (.lst xs)) (e : ixN xs.length i = some j) (h : R (upd H p (.lst (xs.set j v)))) : rSetL (.ref p) (.int i) v H R := ⟨p, xs, i, j, rfl, rfl, hp, e, h⟩
theorem s_int {R : Int → Prop} {R' : Bool → Prop} {i : Int} (h : R i) : (∃ j, [V.int i] = [V.int j] ∧ R j) ∨ ∃ k, [V.int i] = [V.bl k] ∧ R' k := .inl ⟨i, rfl, h⟩
theorem s_intB {R : Int → Prop} {R' : Bool → Prop} {b : Bool} (h : R' b) : (∃ j, [V.bl b] = [V.int j] ∧ R j) ∨ ∃ k, [V.bl b] = [V.bl k] ∧ R' k := .inr ⟨b, rfl, h⟩
theorem s_abs {R : Int → Prop} {i : Int} (h : R i) : ∃ j, [V.int i] = [V.int j] ∧ R j := ⟨i, rfl, h⟩
theorem s_lenL {R : Nat → Prop} {p : Addr} {xs : List V} (hp : H p = some (.lst xs)) (h : R xs.length) : ∃ x n, [V.ref p] = [x] ∧ LenV K x H n ∧ R n := ⟨_, _, rfl, .inl ⟨xs, .inl (.inl hp), rfl⟩, h⟩
theorem s_lenS {R : Nat → Prop} {z : Str} (hz : z.length ≤ sizeLine) (h : R z.length) : ∃ x n, [V.str z] = [x] ∧ LenV K x H n ∧ R n := ⟨_, _, rfl, ⟨hz, rfl⟩, h⟩
/-- all that is tracked stays -/
theorem ex_new {p : Addr} {o : HO} (h : H p = none) : ∀ b u, H b = some u → upd H p o b = some u := fun b u e => by
  rw [upd_ne (ne_of_none e h)]; exact e
def Ex (H H' : Hp) : Prop := ∀ b o, H b = some o → H' b = some o
theorem Ex.refl (H : Hp) : Ex H H := fun _ _ h => h
theorem Ex.trans {H H1 H2 : Hp} (a : Ex H H1) (b : Ex H1 H2) : Ex H H2 := fun x o h => b x o (a x o h)
theorem Ex.free {H H' : Hp} (e : Ex H H') {p : Addr} (h : H' p = none) : H p = none := by
  cases q : H p with
  | none => rfl
  | some o => rw [e _ _ q] at h; cases h
/-- what is wanted of a new thing (kept from being reduced) -/
def ap (Q : VK) (v : V) (H : Hp) : Prop := Q v H
theorem s_lst {tt : TA} (h : tt σ H fun xs H1 => xs.length ≤ sizeLine ∧ ∀ p, H1 p = none → ap Q (.ref p) (upd H1 p (.lst xs))) : tLst tt σ H Q := h
theorem s_tup {tt : TA} (h : tt σ H fun xs H1 => xs.length ≤ sizeLine ∧ ∀ p, H1 p = none → ap Q (.ref p) (upd H1 p (.tup xs))) : tTup tt σ H Q := h
theorem s_new {o : HO} {n : Nat} (hz : n ≤ sizeLine) (h : ∀ p H2, H p = none → Ex H H2 → H2 p = some o → Q (.ref p) H2) : n ≤ sizeLine ∧ ∀ p, H p = none → ap Q (.ref p) (upd H p o) :=
  ⟨hz, fun p hp => h p _ hp (ex_new hp) upd_same⟩
theorem s_cut {M : L2.St → Hp → Prop} (h : t { D with nx := M } σ H) (k : ∀ σ' H', M σ' H' → u D σ' H') : Evl.tCut t u D σ H := ⟨M, h, k⟩
theorem dpInts {H : Hp} : ∀ ns : List Int, DpAll K H (ns.map V.int) (ns.map PyData.int)
  | [] => .nil
  | _ :: r => .cons (.int _) (dpInts r)
theorem s_neD {d e : PyData} (hd : Dp K H x d) (he : Dp K H y e) (sd : SeqAt.shaped d = true) (se : SeqAt.shaped e = true) (h : Q (.bl (!PyData.eqv d e)) H) : rNeD K x y H Q := ⟨d, e, hd, he, sd, se, h⟩
end
end L3
namespace L3
open PySem PySem.Spec PyProof.Rows L2
def lim : Nat := 1000000
/-- the pen's cells: a list of numbers, hidden too -/
def ScO (c : Addr) (ns : List Int) : HO := .ext fun h => ∃ (its : List Value) (k : Nat), (ns.map V.int).length ≤ sizeLine ∧ Vals (ns.map V.int) its ∧ h.get? c = some { cls := .type "list", data := .seq its.toArray k }
section
variable {X : Cx} {pins : List (Addr × Obj)} {σ : L2.St} {H : Hp} {s : Shared}
theorem Inv.scOpen {c : Addr} {ns : List Int} (I : Inv X pins σ H s) (h : H c = some (ScO c ns)) : Inv X pins σ (upd H c (.lst (ns.map V.int))) s := by
  obtain ⟨⟨its, k, hz, r, e⟩, _, _⟩ := (show ObjOk X.prog X.w H s.heap c (ScO c ns) from I.hok c _ h)
  have mu : Mut (H c) := by rw [h]; exact True.intro
  exact I.write (t' := s.toks) (h' := s.heap) (x := c) (e := c) (o := .lst (ns.map V.int)) mu (.inl rfl) (fun _ _ _ q => q) ⟨_, e⟩ ⟨hz, its, k, r, e⟩
theorem Inv.scClose {c : Addr} {ns : List Int} (I : Inv X pins σ H s) (h : H c = some (.lst (ns.map V.int))) : Inv X pins σ (upd H c (ScO c ns)) s := by
  obtain ⟨hz, its, k, r, e⟩ := (show ObjOk X.prog X.w H s.heap c (.lst _) from I.hok c _ h)
  have mu : Mut (H c) := by rw [h]; exact True.intro
  exact I.write (t' := s.toks) (h' := s.heap) (x := c) (e := c) (o := ScO c ns) mu (.inl rfl) (fun _ _ _ q => q) ⟨_, e⟩
    ⟨⟨its, k, hz, r, e⟩, ⟨_, e⟩, fun _ _ ⟨i, k, z, r, q⟩ f => ⟨i, k, z, r, f _ q⟩⟩
end
def scBack (c : Addr) (ns : List Int) (P : Hp → Prop) (H : Hp) : Prop := H c = some (.lst (ns.map V.int)) ∧ P (upd H c (ScO c ns))
def tSc (c : Addr) (ns : List Int) (t : TS) : TS := fun D σ H => H c = some (ScO c ns) ∧
  t { nx := fun σ' => scBack c ns (D.nx σ'), rt := fun v => scBack c ns (D.rt v), bk := fun σ' => scBack c ns (D.bk σ'), ct := fun σ' => scBack c ns (D.ct σ') } σ (upd H c (.lst (ns.map V.int)))
theorem pss_sc {X : Cx} {sts : List Stmt} {t : TS} (c : Addr) (ns : List Int) (h : PSs X sts t) : PSs X sts (tSc c ns t) := by
  refine ⟨fun pins s σ H D I hw => ?_⟩
  obtain ⟨ha, hw⟩ := hw
  refine thn (h.run pins s σ _ _ (Inv.scOpen I ha) hw) fun f s' q => ?_
  cases f with
  | next =>
    obtain ⟨σ', H', I', e, z⟩ := q
    exact ⟨σ', _, Inv.scClose I' e, z⟩
  | brk =>
    obtain ⟨σ', H', I', e, z⟩ := q
    exact ⟨σ', _, Inv.scClose I' e, z⟩
  | cont =>
    obtain ⟨σ', H', I', e, z⟩ := q
    exact ⟨σ', _, Inv.scClose I' e, z⟩
  | ret u =>
    obtain ⟨v, σ', H', I', r, e, z⟩ := q
    exact ⟨v, σ', _, Inv.scClose I' e, r, z⟩
def Pen (H : Hp) (a : Addr) (n : Nat) : Prop := ∃ c ns, H a = some (PenO a c n) ∧ H c = some (ScO c ns) ∧ ns.length ≤ 63 ∧ c ≠ a
def NoTbl : HO → Prop
  | .tbl _ => False
  | _ => True
/-- all but the pen at a and the tables of code objects stays -/
def Xt (a : Addr) (H H' : Hp) : Prop := ∀ b o, b ≠ a → NoTbl o → H b = some o → H' b = some o
abbrev rInt1 : List V → Hp → VK → Prop := fun xs H Q => (∃ i, xs = [V.int i] ∧ Q (V.int i) H) ∨ ∃ k, xs = [V.bl k] ∧ Q (V.int (if k then 1 else 0)) H
abbrev rLen1 (K : PySem.W.Frag) : List V → Hp → VK → Prop := fun xs H Q => ∃ x n, xs = [x] ∧ LenV K x H n ∧ Q (V.int ((n : Nat) : Int)) H
abbrev rAbs1 : List V → Hp → VK → Prop := fun xs H Q => ∃ i, xs = [V.int i] ∧ Q (V.int (if i < 0 then -i else i)) H
/-- == and != of flat things, or of data -/
def rEqU (K : PySem.W.Frag) : R2 := fun x y H Q => rEq x y H Q ∨ rEqD K x y H Q
def rNeU (K : PySem.W.Frag) : R2 := fun x y H Q => rNe x y H Q ∨ rNeD K x y H Q
theorem dec_eqI (i j : Int) : decide (V.int i = V.int j) = decide (i = j) := by
  by_cases h : i = j
  · subst h; simp
  · rw [decide_eq_false h, decide_eq_false (fun z => h (V.int.inj z))]
theorem dec_eqS (i j : Str) : decide (V.str i = V.str j) = decide (i = j) := by
  by_cases h : i = j
  · subst h; simp
  · rw [decide_eq_false h, decide_eq_false (fun z => h (V.str.inj z))]
section
variable {K : PySem.W.Frag} {H : Hp} {Q : VK} {x y : V}
theorem s_eqI {i j : Int} (h : Q (.bl (decide (i = j))) H) : rEqU K (.int i) (.int j) H Q := .inl ⟨rfl, by rw [dec_eqI]; exact h⟩
theorem s_neI {i j : Int} (h : Q (.bl (!decide (i = j))) H) : rNeU K (.int i) (.int j) H Q := .inl ⟨rfl, by rw [dec_eqI]; exact h⟩
theorem s_eqS {i j : Str} (h : Q (.bl (decide (i = j))) H) : rEqU K (.str i) (.str j) H Q := .inl ⟨rfl, by rw [dec_eqS]; exact h⟩
theorem s_neS {i j : Str} (h : Q (.bl (!decide (i = j))) H) : rNeU K (.str i) (.str j) H Q := .inl ⟨rfl, by rw [dec_eqS]; exact h⟩
theorem s_neD' {d e : PyData} (hd : Dp K H x d) (he : Dp K H y e) (sd : SeqAt.shaped d = true) (se : SeqAt.shaped e = true) (h : Q (.bl (!PyData.eqv d e)) H) : rNeU K x y H Q := .inr ⟨d, e, hd, he, sd, se, h⟩
end
end L3
end
section
namespace L3
open PySem PySem.Spec PyProof.Rows L2
structure FnG (P : Program) (w : World) (K : PySem.W.Frag) (mg : Str → Option Value) (base : Heap) (CX : CXT) (k : Nat) (f : Addr) (fd : FuncData) (ps : List Str) (sp : Sp) : Prop where
  len : ∀ vs H Q E, sp vs H Q E → vs.length = ps.length
  run : ∀ (A : Around) (fr : List Env) (s : Shared) (H : Hp) (as : Args) (us : List Value) (vs : List V) (Q : VK) (E : XK), Room k A → A.guards = some [] → Env0 P w K mg base A fr s H →
    BindsTo s fd as (ps.zip us) → Vals vs us → sp vs H Q E → codeAny (model P w) A (.call (.ref f) as) (CR CX fr P w H s Q E) s
theorem FnG.of {P : Program} {w : World} {K : PySem.W.Frag} {mg : Str → Option Value} {base : Heap} {CX : CXT} {k : Nat} {f : Addr} {fd : FuncData} {ps : List Str} {sp : Sp} (F : FnOk P w K mg base CX k f fd ps sp) : FnG P w K mg base CX k f fd ps sp :=
  ⟨F.len, fun A fr s H as us vs Q E r _ => F.run A fr s H as us vs Q E r⟩
/-- THE RULE for such a def -/
theorem funG {P : Program} {w : World} {K : PySem.W.Frag} {mg : Str → Option Value} {base : Heap} {CX : CXT} {x qual : Str} {st : Stmt} {f : Addr} {fd : FuncData} {N ps : List Str} {k : Nat} {sp : Sp}
    (F : Fun K x qual st f fd) (S : FnScope N ps (defScope st)) (len : ∀ vs H Q E, sp vs H Q E → vs.length = ps.length)
    (body : ∀ (cd : Value) (A : Around) (fr : List Env) (s : Shared) (H : Hp) (vs : List V) (Q : VK) (E : XK), Room k (A.deeper (envOfC qual (defScope st) s.heap.objs.size f cd)) → A.guards = some [] → sp vs H Q E →
      ∃ t, PSs (cxOf CX P w K mg base N qual (defScope st) f cd A fr s H E) (defBody st) t ∧ t { nx := fun _ H' => Q .non H', rt := Q } (L2.start N vs) H) :
    FnG P w K mg base CX (k + 1) f fd ps sp := by
  obtain ⟨oc, od, kV, doc, pm, an, cd, ct, sl, rfl, lk, hcd⟩ := F.ex
  exact ⟨len, fun A fr s H as us vs Q E hr hg e0 hb r h => LamX.run_ofS lk hcd S hr e0 hb r (len _ _ _ _ h) fun hr' => body cd A fr s H vs Q E hr' hg h⟩
section
variable {X : Cx} {CX : CXT} {k : Nat} {f : Addr} {fd : FuncData} {ps : List Str} {sp : Sp} {E : XK} {x : Str} {p pos : Pos} {e : Expr} {es : List Expr} {t : TA}
theorem runG {pins : List (Addr × Obj)} {σ : L2.St} {H : Hp} {s : Shared} {Q : VK} {us : List Value} {vs : List V} (F : FnG X.prog X.w X.K X.mg X.base CX k f fd ps sp) (hr : Room k X.A) (hg : X.A.guards = some [])
    (hb : Binds X.K fd ps []) (hx : Passes CX X E) (I : Inv X pins σ H s) (r : Vals vs us) (h : sp vs H Q E) : wpAny (model X.prog X.w) X.A (call (.ref f) us) (EP X pins σ Q) X.xe s := by
  have hl : (us ++ []).length = ps.length := by rw [List.append_nil, ← r.length]; exact F.len _ _ _ _ h
  have b := hb s us I.kIn hl
  rw [List.append_nil] at b
  refine wpAny_call (codeAny_mono (F.run X.A X.stack s H ⟨us, []⟩ us vs Q E hr hg I.env0 b r h) fun q s' z => ?_)
  match q, z with
  | .error e, z => exact hx pins σ H s e s' I z
  | .ok (.ret u), z => exact I.after z
/-- a def of the module, called by its name, as one bundle -/
structure Fn (P : Program) (w : World) (K : PySem.W.Frag) (mg : Str → Option Value) (base : Heap) (CX : CXT) (k : Nat) (x : Str) (ps : List Str) (sp : Sp) : Prop where
  ex : ∃ (f : Addr) (fd : FuncData), FnG P w K mg base CX k f fd ps sp ∧ mg x = some (.ref f) ∧ PySem.W.keepIn K (.ref f) = true ∧ Binds K fd ps [] ∧
    ∀ (s : Shared) (ws : List Value), K.In s.heap → ws.length = ps.length → BindsTo s fd ⟨[], ps.zip ws⟩ (ps.zip ws)
theorem pe_f {j : Nat} (c : Fn X.prog X.w X.K X.mg X.base CX k x ps sp) (hr : Room j X.A) (hg : X.A.guards = some []) (hx : Passes CX X E) (ha : PA X (e :: es) t) (hk : k ≤ j := by decide) (gl : Gl X x := by rfl)
    (hdb : (x == ("__debug__" : Str)) = false := by decide) (he : starEach (e :: es) X.env = (false, eval e X.env) :: starEach es X.env := by rfl) (hpl : (backTo pos (starEach es X.env)).any (·.1) = false := by rfl) :
    PE X (.Call (.Name x p) (e :: es) [] pos) (tCall sp [] E t) := by
  obtain ⟨f, fd, F, m, kp, b, _⟩ := c.ex
  constructor
  intro pins s σ H Q I h
  refine wpAny_Call_Name_kw (ld_glob I gl m ?_ hdb)
  refine PySem.W.callWith_K (h₀ := X.base) I.ok.mod.kin kp (thn (ha.run pos pins s σ H _ I h) fun us s1 q => ?_) he hpl
  obtain ⟨vs, H1, I1, r, q⟩ := q
  rw [List.append_nil] at q
  exact ⟨I1.kIn, runG F (hr.mono hk) hg b hx I1 r q⟩
end
end L3
namespace L3
open PySem PySem.Spec PyProof.Rows L2 LamX
/-- what is tracked at the law's entry: the script, locked, where it is no object of the module's own; the tables -/
def H0 (K : PySem.W.Frag) (a : Addr) (o : Obj) (xs : List V) (ts : List Addr) : Hp := fun b =>
  if b ∈ ts then some (.tbl #[]) else if b = a ∧ (K.lookup a).isNone = true then some (.frz o (.lst xs)) else none
theorem lawG {P : Program} {w : World} {K : PySem.W.Frag} {mg mb : Str → Option Value} {CX : CXT} {k : Nat} {fa a : Addr} {cs : List (Addr × Addr)} {fd : FuncData} {x : Str} {sp : Sp} {s : Shared} {vs : List Value} {ns : List Int}
    (kin : K.In s.heap) (glo : s.heap.Ns mainGlobals mg) (blt : s.heap.Ns builtinsNs mb) (bls : ∀ y : Str, y ≠ "__name__" → mb y = bootBuiltins y) (lims : s.heap.NoLimit) (gen : s.gens = #[])
    (tabs : ∀ p ∈ cs, s.heap.get? p.2 = some { cls := .none, data := .fields #[] }) (tabK : ∀ p ∈ cs, K.lookup p.2 = none) (codes : ∀ p ∈ cs, PySem.W.CodeHd s.heap p.1 p.2)
    (bmod : ∃ (bm : Addr) (ob : Obj), mg "__builtins__" = some (.ref bm) ∧ bm ≠ builtinsNs ∧ s.heap.get? bm = some ob ∧ ob.cls = .type "module" ∧ ob.dict = some builtinsNs ∧ ob.data = .plain)
    (scr : s.heap.get? a = some { cls := .type "list", data := .seq vs.toArray }) (hInts : IntsAre vs ns) (few : ns.length ≤ sizeLine) (room : Room k callerA)
    (F : ∀ base : Heap, K.In base → base.Ns mainGlobals mg → (∀ p ∈ cs, TabB base mg p.1 p.2) → FnG P w K mg base CX k fa fd [x] sp)
    (bind : ∀ (s : Shared) (u : Value), BindsTo s fd ⟨[u], []⟩ [(x, u)])
    (says : ∀ H : Hp, (∀ p ∈ cs, H p.2 = some (.tbl #[])) → SqL K H a (ns.map V.int) → sp [.ref a] H (fun v _ => v = .bl true) fun _ _ _ => False)
    (none' : ∀ H e s', CX [] H s (fun _ _ _ => False) e s' → False) :
    codeAny (model P w) callerA (.call (.ref fa) ⟨[.ref a], []⟩) (fun r s' => r = .ok (.ret (.bool true)) ∧ OldK s.heap s'.heap ∧ s'.os = s.os ∧ AllBare s'.gens) s := by
  have rv := vals_ints hInts
  have lv := hInts.length
  generalize hts : cs.map (·.2) = ts
  have mem : ∀ p ∈ cs, p.2 ∈ ts := fun p hp => by rw [← hts]; exact List.mem_map.mpr ⟨p, hp, rfl⟩
  have isT : ∀ b ∈ ts, s.heap.get? b = some { cls := .none, data := .fields #[] } ∧ K.lookup b = none := fun b hb => by
    rw [← hts] at hb
    obtain ⟨p, hp, rfl⟩ := List.mem_map.mp hb
    exact ⟨tabs p hp, tabK p hp⟩
  have aT : a ∉ ts := fun z => by
    have q := (isT a z).1
    rw [scr] at q
    exact nomatch congrArg Obj.data (Option.some.inj q)
  generalize hH : H0 K a { cls := .type "list", data := .seq vs.toArray } (ns.map V.int) ts = H
  have atT : ∀ b ∈ ts, H b = some (.tbl #[]) := fun b hb => by rw [← hH]; exact if_pos hb
  have cases_ : ∀ b, H b = none ∨ b ∈ ts ∨ (b = a ∧ K.lookup a = none ∧ H b = some (.frz { cls := .type "list", data := .seq vs.toArray } (.lst (ns.map V.int)))) := fun b => by
    by_cases h1 : b ∈ ts
    · exact .inr (.inl h1)
    · by_cases h2 : b = a ∧ (K.lookup a).isNone = true
      · refine .inr (.inr ⟨h2.1, by simpa using h2.2, ?_⟩)
        rw [← hH]; unfold H0; rw [if_neg h1, if_pos h2]
      · left; rw [← hH]; unfold H0; rw [if_neg h1, if_neg h2]
  have hok : HOk P w H s.heap := fun b o e => by
    rcases cases_ b with q | q | ⟨rfl, _, q⟩
    · rw [q] at e; cases e
    · rw [atT b q] at e; cases e; exact (isT b q).1
    · rw [q] at e; cases e
      exact ⟨scr, by rw [List.length_map]; exact few, vs, _, rv, scr⟩
  have sq : SqL K H a (ns.map V.int) := by
    cases hk : K.lookup a with
    | none => exact .inl (.inr ⟨_, by rw [← hH]; unfold H0; rw [if_neg aT, if_pos ⟨rfl, by rw [hk]; rfl⟩]⟩)
    | some o =>
      have z := kin a o hk
      rw [scr] at z
      cases z
      exact .inr ⟨_, vs.toArray, _, hk, rfl, rfl, rfl, by rw [List.size_toArray, lv]; exact few, by simpa using rv⟩
  -- what isn't tracked lies in the ground
  have gr : ∀ {b : Addr} {o : Obj}, s.heap.get? b = some o → H b = none → (hidT s.heap H).get? b = some o := fun e n => hidT_get e n
  have free : ∀ {b : Addr} {o : Obj}, s.heap.get? b = some o → (∀ us n, o.data ≠ .seq us n) → o.data ≠ .fields #[] → H b = none := fun {b o} e h1 h2 => by
    rcases cases_ b with q | q | ⟨rfl, _, _⟩
    · exact q
    · rw [(isT b q).1] at e; cases e; exact (h2 rfl).elim
    · rw [scr] at e; cases e; exact (h1 _ _ rfl).elim
  have ns' : ∀ {b : Addr} {m : Str → Option Value}, s.heap.Ns b m → (hidT s.heap H).Ns b m := fun {b m} h => by
    obtain ⟨o, es, ep, e, d, r⟩ := h
    exact ⟨o, es, ep, gr e (free e (fun _ _ z => by rw [d] at z; cases z) fun z => by rw [d] at z; cases z), d, r⟩
  have kin' : K.In (hidT s.heap H) := fun b o e => gr (kin b o e) (by
    rcases cases_ b with q | q | ⟨rfl, q, _⟩
    · exact q
    · rw [(isT b q).2] at e; cases e
    · rw [q] at e; cases e)
  have lim' : (hidT s.heap H).NoLimit := by
    obtain ⟨mc, h1, h2⟩ := lims
    exact ⟨mc, ns' h1, h2⟩
  have tb : ∀ p ∈ cs, TabB (hidT s.heap H) mg p.1 p.2 := fun p hp => by
    refine ⟨?_, ?_, fun z => ?_⟩
    · obtain ⟨o, us, file, tf, flags, tg, inF, text, tt, e1, r1, r2, r3, r⟩ := codes p hp
      refine ⟨o, us, file, tf, flags, tg, inF, text, tt, gr e1 (free e1 (fun _ _ z => by rw [r2] at z; cases z) fun z => ?_), r1, r2, r3, r⟩
      rw [r2] at z
      cases z
      simp at r3
    · obtain ⟨bm, ob, b1, b2, b3, b4, b5, b6⟩ := bmod
      refine ⟨bm, ob, b1, b2, fun z => ?_, fun z => ?_, gr b3 (free b3 (fun _ _ z => by rw [b6] at z; cases z) fun z => by rw [b6] at z; cases z), b4, b5, b6⟩
      · obtain ⟨o, es, ep, e, hd, _⟩ := glo
        rw [z, e] at b3; cases b3; rw [hd] at b6; cases b6
      · rw [z, tabs p hp] at b3; cases b3; cases b6
    · obtain ⟨o, es, ep, e, hd, _⟩ := glo
      rw [z, tabs p hp] at e; cases e; cases hd
  have e0 : Env0 P w K mg (hidT s.heap H) callerA [] s H :=
    ⟨rfl, ⟨kin', ns' glo, ⟨mb, ns' blt, bls⟩, lim'⟩, fun b o e => of_hidT e, Nat.le_of_eq (hidT_size _ _), trivial, fun b hb => absurd (show b ∈ ([] : List Addr) from hb) (by simp), hok, .of_eq gen⟩
  refine codeAny_mono ((F _ kin' (ns' glo) tb).run callerA [] s H ⟨[.ref a], []⟩ [.ref a] [.ref a] _ _ room rfl e0 (bind s (.ref a)) (.cons rfl .nil) (says H (fun p hp => atT _ (mem p hp)) sq)) fun r s' h => ?_
  match r, h with
  | .error e, h => exact (none' H e s' h).elim
  | .ok (.ret u), h =>
    obtain ⟨v, H', os, bare, un, hok', r', q⟩ := h
    have q' : v = .bl true := q
    subst q'
    obtain rfl : u = Value.bool true := r'
    have nofr : ∀ b : Addr, b ∉ frs [] := fun b z => absurd (show b ∈ ([] : List Addr) from z) (by simp)
    have kept : ∀ b o, b ∉ ts → s.heap.get? b = some o → s'.heap.get? b = some o := fun b o nb e => by
      rcases cases_ b with q | q | ⟨_, _, q⟩
      · exact un.keep b o e q (nofr b) (by simp)
      · exact absurd q nb
      · have e1 := (hok b _ q).1
        have e2 := (hok' b _ (un.frzs b _ _ q)).1
        rw [e] at e1; cases e1; exact e2
    have tgrow : ∀ p ∈ cs, ∃ more : Array Value, s'.heap.get? p.2 = some { cls := .none, data := .fields more } := fun p hp => by
      obtain ⟨more, z⟩ := un.tbls p.2 #[] (atT _ (mem p hp))
      exact ⟨_, hok' p.2 _ z⟩
    have back : ∀ b ∈ ts, ∃ p ∈ cs, p.2 = b := fun b hb => by
      rw [← hts] at hb
      obtain ⟨p, hp, e⟩ := List.mem_map.mp hb
      exact ⟨p, hp, e⟩
    refine ⟨rfl, ⟨fun b o e => ?_, fun b o e => ?_⟩, os, bare⟩
    · by_cases hb : b ∈ ts
      · obtain ⟨p, hp, rfl⟩ := back b hb
        obtain ⟨more, hm⟩ := tgrow p hp
        rw [tabs p hp] at e
        cases e
        refine .inr (.inl ⟨((codes p hp).tab (tabs p hp)).isCodeTable, rfl, #[], more, rfl, ?_⟩)
        rw [Array.empty_append]
        exact hm
      · exact .inl (kept b o hb e)
    · by_cases hb : b ∈ ts
      · obtain ⟨p, hp, rfl⟩ := back b hb
        obtain ⟨more, hm⟩ := tgrow p hp
        exact ⟨_, hm⟩
      · exact ⟨o, kept b o hb e⟩
/-- what a law's own text must bring -/
structure LawG (l : PySem.W.OpenLaw) (w : World) (K : PySem.W.Frag) (CX : CXT) (k n : Nat) (x : Str) (mg : Str → Option Value) (fa : Addr) (h : Heap) : Prop where
  ex : ∃ (fd : FuncData) (cs : List (Addr × Addr)) (sp : Sp), (∀ p ∈ cs, h.get? p.2 = some { cls := .none, data := .fields #[] }) ∧ (∀ p ∈ cs, K.lookup p.2 = none) ∧ (∀ p ∈ cs, PySem.W.CodeHd h p.1 p.2) ∧
    (∀ (s : Shared) (u : Value), BindsTo s fd ⟨[u], []⟩ [(x, u)]) ∧
    (∀ (H : Hp) (a : Addr) (ns : List Int), ns.length ≤ n → (∀ p ∈ cs, H p.2 = some (.tbl #[])) → SqL K H a (ns.map V.int) → sp [.ref a] H (fun v _ => v = .bl true) fun _ _ _ => False) ∧
    ∀ base : Heap, K.In base → base.Ns mainGlobals mg → (∀ p ∈ cs, TabB base mg p.1 p.2) → FnG l.prog w K mg base CX k fa fd [x] sp
theorem walkG {l : PySem.W.OpenLaw} {n k : Nat} {q : Program} {loose : List Str} {XP : (Str → Option Value) → Heap → Prop} {YP : World → Heap → Prop} {d : DefRec} {K : Params → PySem.W.Frag} {CX : World → CXT} {x : Str}
    (hn : l.most = some n) (hn2 : n ≤ sizeLine) (hdf : d.params.defaults = []) (hr : Room k callerA) (hY : ∀ (w : World) (h : Heap), YP w h → (K w.params).In h)
    (F : ∀ (w : World) (mg : Str → Option Value) (fa : Addr) (h : Heap), YP w h → (K w.params).In h → h.Ns mainGlobals mg → mg d.name = some (.ref fa) → LawG l w (K w.params) (CX w) k n x mg fa h)
    (hCX : ∀ (w : World) (H : Hp) (s : Shared) (e : Value) (s' : Shared), CX w [] H s (fun _ _ _ => False) e s' → False) :
    PySem.W.WalkO q loose XP YP l.row.toRowW d [] (fun f vs => PySem.call f vs) := by
  refine Att.attach_callB hn hdf fun w s₀ s₁ mg mb fa o pm cd doc a vs ns G Y ho hd hcd hmg hobj hints hlen _ hg => ?_
  have kx := hY w _ Y
  obtain ⟨fd, cs, sp, t1, t2, t3, hb, hs, hF⟩ := (F w mg fa _ Y kx G.T.g hmg).ex
  exact lawG kx G.T.g G.T.b G.T.builtins G.T.nolimit hg t1 t2 t3 G.T.bmain hobj hints (Nat.le_trans hlen hn2) hr hF hb (fun H hH hS => hs H a ns hlen hH hS) fun H e s' => hCX w H s₁ e s'
end L3
end
section
namespace L3
open PySem PySem.Spec PyProof.Rows L2
section
variable {X : Cx}
def repS (z : Str) (n : Nat) : Str := ⟨(List.replicate n z.cps).foldl (· ++ ·) #[]⟩
def rMulS : R2 := fun x y H Q => ∃ z n, x = .str z ∧ y = .int n ∧ 2 ≤ n ∧ n ≤ 100000 ∧ z.length = 1 ∧ Q (.str (repS z n.toNat)) H
theorem repS_len (z : Str) (n : Nat) : (repS z n).length = n * z.length := by
  have h : ∀ (l : List (Array Nat)) (a : Array Nat), (l.foldl (· ++ ·) a).size = a.size + (l.map (·.size)).sum := by
    intro l
    induction l with
    | nil => intro a; simp
    | cons b r ih => intro a; rw [List.foldl_cons, ih, Array.size_append, List.map_cons, List.sum_cons]; omega
  show ((List.replicate n z.cps).foldl (· ++ ·) #[]).size = _
  rw [h, List.map_replicate, List.sum_replicate_nat]
  simp [Str.length]
theorem op_mulS : OpR X (binaryOp .Mult) rMulS := by
  intro pins s σ H x y v u Q I rx ry h
  obtain ⟨z, n, rfl, rfl, h1, h2, h3, q⟩ := h
  obtain ⟨t, rfl⟩ := rx
  obtain ⟨t', rfl⟩ := ry
  have c1 : ¬ n < 1 := by omega
  have c2 : (n == 1 || z.length == 0) = false := by
    rw [h3, show (n == 1) = false from beq_eq_false_iff_ne.mpr (by omega)]
    rfl
  refine P.mul_str (by rw [decide_eq_false (by omega), decide_eq_false (by omega)]; rfl) (fun _ _ => ?_) (fun _ _ => ?_) ?_
  · rw [h3]
    have : (1 : Int) ≤ (2 ^ 63 - 1) / n := Int.le_ediv_of_mul_le (by omega) (by omega)
    omega
  · unfold PySem.Builtin.Str.tooLong
    rw [h3]
    exact decide_eq_false (by rw [sizeLine_eq]; omega)
  · rw [if_neg c1, c2, if_neg (by decide)]
    refine ⟨?_, ⟨.str (repS z n.toNat), H, I.tok _, ⟨_, rfl⟩, q⟩⟩
    show (repS z n.toNat).length ≤ sizeLine
    rw [repS_len, h3, sizeLine_eq]
    omega
theorem vals_of_get : ∀ {xs : List V} {us : List Value}, xs.length = us.length → (∀ (i : Nat) x u, xs[i]? = some x → us[i]? = some u → RelV x u) → Vals xs us
  | [], [], _, _ => .nil
  | x :: xs, u :: us, hl, h => .cons (h 0 x u rfl rfl) (vals_of_get (by simpa using hl) fun i y v a b => h (i + 1) y v (by simpa using a) (by simpa using b))
  | [], _ :: _, hl, _ => by simp at hl
  | _ :: _, [], hl, _ => by simp at hl
def chars (z : Str) : List V := z.cps.toList.map fun c => V.str ⟨#[c]⟩
def rListS : List V → Hp → VK → Prop := fun xs H Q => ∃ z, xs = [.str z] ∧ z.length ≤ sizeLine ∧ ∀ l, H l = none → ap Q (.ref l) (upd H l (.lst (chars z)))
theorem call_listS (hc : X.calm = true) : CallR X (.type "list") rListS := by
  intro pins s σ H xs us Q I r h
  obtain ⟨z, rfl, hz, q⟩ := h
  obtain ⟨u, rfl, rx⟩ := vals1 r
  obtain ⟨t, rfl⟩ := rx
  refine call_list_str (I.ok.hd hc) z t (fun h' tk acc c k e it => ?_) hz
  have rl : Vals (chars z) acc.toList := by
    refine vals_of_get ?_ fun i x u hx hu => ?_
    · unfold chars
      rw [List.length_map, Array.length_toList, Array.length_toList, it.1]
    · obtain ⟨c, t, e1, rfl⟩ := it.2 i u (by simpa using hu)
      have e2 : z.cps.toList[i]? = some c := by simpa using e1
      unfold chars at hx
      rw [List.getElem?_map, e2] at hx
      cases hx
      exact ⟨t, rfl⟩
  refine ⟨.ref s.heap.objs.size, _, I.laid (t' := tk) k (Nat.le_refl _) (o := .lst (chars z)) ⟨by unfold chars; rw [List.length_map]; exact hz, acc.toList, c, rl, by simpa using e⟩, rfl, q _ (I.hok.fresh (Nat.le_refl _))⟩
end
end L3
namespace L3
open PySem PySem.Calls PySem.NumText PyProof.Rows PySem.W PySem.W.KIN
def DigitsFree (h : Heap) : Prop := ∃ mc, h.Ns cStatics mc ∧ mc "sys.int_max_str_digits" = none
theorem wp_digits {M : Model} {A : Around} {E : Value → Shared → Prop} {s : Shared} {Q : Nat → Shared → Prop} (hm : DigitsFree s.heap) (h : Q 4300 s) : wpAny M A PySem.Builtin.intMaxStrDigits Q E s := by
  obtain ⟨mc, h1, h2⟩ := hm
  unfold PySem.Builtin.intMaxStrDigits
  refine wpAny_bind (wpAny_nsGet h1 ?_)
  rw [h2]
  exact wpAny_pure h
theorem wp_textL {M : Model} {A : Around} {E : Value → Shared → Prop} {s : Shared} {Q : Value → Shared → Prop} {v : Value} {text : List Nat} {n : Int} (hm : DigitsFree s.heap)
    (hs : ¬ (text.takeWhile (· != 0)).length ≤ 640) (hr : (int_private% "readNumeral") 4300 10 (text.takeWhile (· != 0)) = (int_private% "Numeral.value") n)
    (ha : ((text.takeWhile (· != 0)).length == text.length) = true) (h : Q (.int n s.toks) { s with toks := s.toks + 1 }) :
    wpAny M A ((int_private% "intFromText") v text 10) Q E s := by
  obtain ⟨hp, g, d, tk, os⟩ := s
  repeat (any_goals (first
    | assumption
    | (with_reducible refine wpAny_ite_false (decide_eq_false hs) ?_)
    | (with_reducible refine wpAny_ite_true (decide_eq_true ha) ?_)
    | (with_reducible refine wp_digits hm ?_)
    | wp_step))
  all_goals (try rw [hr])
  all_goals (try dsimp only)
  repeat (any_goals (first
    | assumption
    | (with_reducible refine wpAny_ite_true (decide_eq_true ha) ?_)
    | wp_step))
structure HidL (p : Prop) : Prop where
  out : p
theorem meets_textL {x : PySem.Str} {u : Tok} {n : Int} (hl : ¬ (numSeenOf x).length ≤ 640) (hr : (int_private% "readNumeral") 4300 10 (numSeenOf x) = (int_private% "Numeral.value") n)
    (ha : ((numSeenOf x).length == (numTextOf x).length) = true) : Meets (Builtin.«int.__new__» ⟨[.type "int", .str x u], []⟩) (fun _ R s => DigitsFree s.heap ∧ R (.ok (.ret (.int n s.toks))) { s with toks := s.toks + 1 }) := by
  intro prog w A R s h
  obtain ⟨hm, h⟩ := h
  obtain ⟨hp, g, d, tk, os⟩ := s
  have g1 := F.conv_sub_int
  have g2 := F.madeHere_int
  have g3 := str_int
  have g4 := str_idx
  have g5 := str_trunc
  have g6 : typeOf (.str x u) = pure (.type "str") := rfl
  have hk := HidL.mk (And.intro hl (And.intro hr ha))
  clear hl hr ha
  repeat (any_goals (first
    | assumption
    | ((with_reducible show wpAny _ _ ((int_private% "intFromText") _ _ _) _ _ _); refine wp_textL hm hk.out.1 hk.out.2.1 hk.out.2.2 ?_)
    | wp_step))
theorem call_textL {prog : Program} {w : World} {A : Around} {E : Value → Shared → Prop} {s : Shared} {Q : Value → Shared → Prop} {x : PySem.Str} {u : Tok} {n : Int} (hm : DigitsFree s.heap) (hl : ¬ (numSeenOf x).length ≤ 640) (hr : (int_private% "readNumeral") 4300 10 (numSeenOf x) = (int_private% "Numeral.value") n)
    (ha : ((numSeenOf x).length == (numTextOf x).length) = true) (h : Q (.int n s.toks) { s with toks := s.toks + 1 }) :
    wpAny (model prog w) A (call (.type "int") [.str x u]) Q E s := call_int_1 (meets_textL hl hr ha) ⟨hm, rfl, h⟩
end L3
namespace L3
open PySem PySem.Spec PyProof.Rows L2
namespace FnK
theorem slot : Slot "function" "__getattribute__" "object.__getattribute__" := .of (owner := "object") (n := "__getattribute__")
  (by rw [typeLookup_type, builtinLookup_eq_fast]; kernel_rfl) (by decide +kernel) (by decide +kernel) (by decide +kernel) (by first | exact .inl (by decide +kernel) | exact .inr (by decide +kernel)) (by rw [isSubtype_type]; kernel_rfl)
theorem look : typeLookup (.type "function") "__class__" = pure (some (.builtin "object.__class__")) := by
  rw [typeLookup_type, builtinLookup_eq_fast]; kernel_rfl
theorem below : isSubtype (.type "function") (.type (".".intercalate ("object.__class__".cutAt '.').dropLast)) = pure true := by
  rw [F.owner_object_class, isSubtype_type]; kernel_rfl
section
variable {prog : Program} {w : World} {A : Around} {E : Value → Shared → Prop} {hp : Heap} {gs : Array GenState} {dr : Drawn} {tk : Nat} {os : OsState} {f : Addr} {ob : Obj}
theorem got {R : Result → Shared → Prop} (e : hp.get? f = some ob) (c : ob.cls = .type "function") (k : R (.ok (.ret (.type "function"))) ⟨hp, gs, dr, tk, os⟩) :
    codeAny (model prog w) A (.call (.builtin "getset_descriptor.__get__") ⟨[.builtin "object.__class__", .ref f, .type "function"], []⟩) R ⟨hp, gs, dr, tk, os⟩ := by
  have y1 : (⟨hp, gs, dr, tk, os⟩ : Shared).TypeIs (.ref f) "function" := ⟨_, e, c⟩
  have y2 : (⟨hp, gs, dr, tk, os⟩ : Shared).TypeIs (.builtin "object.__class__") "getset_descriptor" := F.typeOf_object_class
  have y3 := below
  refine codeAny_call_builtin F.slot_gs_get.plain F.entry_gs_get (F.slot_gs_get.check _ _ _ _ _ _ _ _ y2 (F.args_gs_get _ _ _) ?_)
  repeat (any_goals (first | assumption | wp_step))
  refine ⟨Code.quiet_builtin _ (by decide +kernel), codeAny_builtin F.entry_object_class ?_⟩
  repeat (any_goals (first | assumption | wp_step))
theorem entry {t : Tok} {Q : Fin → Shared → Prop} (e : hp.get? f = some ob) (c : ob.cls = .type "function") (k : Q (.done (.ret (.type "function"))) ⟨hp, gs, dr, tk, os⟩) :
    wpAny (model prog w) A (Builtin.«object.__getattribute__» ⟨[.ref f, .str "__class__" t], []⟩) Q E ⟨hp, gs, dr, tk, os⟩ := by
  have y1 : (⟨hp, gs, dr, tk, os⟩ : Shared).TypeIs (.ref f) "function" := ⟨_, e, c⟩
  have y2 : (⟨hp, gs, dr, tk, os⟩ : Shared).TypeIs (.builtin "object.__class__") "getset_descriptor" := F.typeOf_object_class
  have y3 := look
  have y4 := F.typeOf_object_class
  have y5 := F.slot_gs_get.lookup
  have y6 := F.slot_gs_set.lookup
  repeat (any_goals (first | assumption | wp_step))
  refine got e c ?_
  repeat (any_goals (first | assumption | wp_step))
theorem by_ {t : Tok} {Q : Value → Shared → Prop} (e : hp.get? f = some ob) (c : ob.cls = .type "function") (k : Q (.type "function") ⟨hp, gs, dr, tk, os⟩) :
    wpAny (model prog w) A (getAttrBy (.ref f) (.str "__class__" t) false) Q E ⟨hp, gs, dr, tk, os⟩ := by
  have y1 : (⟨hp, gs, dr, tk, os⟩ : Shared).TypeIs (.ref f) "function" := ⟨_, e, c⟩
  have y2 := slot.lookup
  have y3 := slot.bind (.ref f)
  repeat (any_goals (first | assumption | wp_step))
  refine codeAny_call_builtin slot.plain F.entry_object_getattribute (slot.check _ _ _ _ _ _ _ _ y1 (F.args_object_getattribute_2 _ _) (entry e c ?_))
  repeat (any_goals (first | assumption | wp_step))
theorem attr {Q : Option Value → Shared → Prop} (e : hp.get? f = some ob) (c : ob.cls = .type "function") (k : Q (some (.type "function")) ⟨hp, gs, dr, tk + 1, os⟩) :
    wpAny (model prog w) A (getAttr? (.ref f) "__class__") Q E ⟨hp, gs, dr, tk, os⟩ := by
  unfold getAttr? getAttrBy?
  repeat (any_goals (first | assumption | with_reducible apply by_ e c | wp_step))
end
theorem kit {K : PySem.W.Frag} {f : Addr} : PySem.W.KitX K (.ref f) (.type "function") (PySem.W.KitAt f "function") :=
  PySem.W.kitx_of PySem.W.kitAt_ty (fun {_ _ _ _ _ s} p k => by
    obtain ⟨hp, gs, dr, tk, os⟩ := s
    obtain ⟨o, h1, h2⟩ := p
    exact attr h1 h2 k)
end FnK
/-- a function object -/
def FnV (f : Addr) : HO := .ext fun h => ∃ o, h.get? f = some o ∧ o.cls = .type "function"
/-- a value's type -/
inductive TyA (K : PySem.W.Frag) (H : Hp) : V → Value → Prop where
  | x {v : V} {t : Value} (h : TyX K H v t) : TyA K H v t
  | fn {f : Addr} (e : H f = some (FnV f)) : TyA K H (.ref f) (.type "function")
def rIsiA (K : PySem.W.Frag) : List V → Hp → VK → Prop := fun xs H Q => ∃ (x c : V) (t u : Value) (b : Bool), xs = [x, c] ∧ ClsV c u ∧ TyA K H x t ∧ PySem.W.kitOne K t u = some b ∧ Q (.bl b) H
theorem callIsi {X : Cx} : CallR X (.builtin "isinstance") (rIsiA X.K) := by
  intro pins s σ H xs us Q I r h
  obtain ⟨x, c, t, u, b, rfl, k, ty, e, q⟩ := h
  cases ty with
  | x ty => exact call_isi pins s σ H _ us Q I r ⟨x, c, t, u, b, rfl, k, ty, e, q⟩
  | @fn f ef =>
    obtain ⟨u1, u2, rfl, r1, r2⟩ := vals2 r
    have e2 := k.eq r2
    subst e2
    cases (show u1 = Value.ref f from r1)
    obtain ⟨⟨o, h1, h2⟩, _, _⟩ := (show ObjOk X.prog X.w H s.heap f (FnV f) from I.hok f _ ef)
    exact PySem.W.kia_one (FnK.kit (K := X.K) (f := f)) I.kIn ⟨o, h1, h2⟩ e (fun z => nomatch z) fun tk => ⟨.bl b, H, I.tok tk, rfl, q⟩
end L3
namespace L3
open PySem PySem.Spec PyProof.Rows L2 LamX
theorem Tabs.up {T : List (Addr × Str)} {H : Hp} {p : Addr} {o : HO} (t : Tabs T H) (h : H p = none) : Tabs T (upd H p o) := t.ext (ex_new h)
section
variable {X : Cx}
def rAddU : R2 := fun x y H Q => rI0 (fun i j => V.int (i + j)) x y H Q ∨ (∃ i j, x = .str i ∧ y = .str j ∧ i.length + j.length ≤ sizeLine ∧ Q (.str (i ++ j)) H) ∨ rCat x y H Q
theorem opAdd : OpR X (binaryOp .Add) rAddU := OpR.or op_add (OpR.or op_add_str op_cat)
def rMulU : R2 := fun x y H Q => rI IntMulOk (fun i j => V.int (i * j)) x y H Q ∨ rMulS x y H Q ∨ rRep x y H Q
theorem opMul : OpR X (binaryOp .Mult) rMulU := OpR.or (opI fun _ _ _ _ _ _ _ hc q => mul_int q hc) (OpR.or op_mulS op_rep)
theorem opEq (hu : X.A.units + 64 < cLine) : OpR X (compareOp .Eq) (rEqU X.K) := OpR.or op_eq (op_eqD hu)
theorem opNe (hu : X.A.units + 64 < cLine) : OpR X (compareOp .NotEq) (rNeU X.K) := OpR.or op_ne (op_neD hu)
def rIsU : R2 := fun x y H Q => (y = .non ∧ Q (.bl (decide (x = .non))) H) ∨ rIsB x y H Q
def rIsNotU : R2 := fun x y H Q => (y = .non ∧ Q (.bl (!decide (x = .non))) H) ∨ rNotB x y H Q
def rInU (K : PySem.W.Frag) : R2 := fun x y H Q => rInS x y H Q ∨ rIn K false x y H Q
theorem opIn : OpR X (compareOp .In) (rInU X.K) := OpR.or op_inS op_in_seq
def rNotInU (K : PySem.W.Frag) : R2 := fun x y H Q => rNotInS x y H Q ∨ rIn K true x y H Q
theorem IxR.or {r r' : R2} (h : IxR X r) (h' : IxR X r') : IxR X (fun x y H Q => r x y H Q ∨ r' x y H Q) := by
  intro value slice pins s σ H x y v u Q I rx ry q hs
  rcases q with q | q
  · exact h value slice pins s σ H x y v u Q I rx ry q hs
  · exact h' value slice pins s σ H x y v u Q I rx ry q hs
def rIxU (K : PySem.W.Frag) : R2 := fun x y H Q => rIxL K x y H Q ∨ rIxT K x y H Q ∨ rIxS x y H Q
theorem ixU : IxR X (rIxU X.K) := IxR.or ix_list (IxR.or ix_tup ix_str)
def rSlU (K : PySem.W.Frag) : V → Option Int → Option Int → Hp → VK → Prop := fun x lo hi H Q => rSlL K x lo hi H Q ∨ rSlS x lo hi H Q
theorem slU : SlR X (rSlU X.K) := SlR.or sl_list sl_str
theorem CallR.or {f : Value} {r r' : List V → Hp → VK → Prop} (h : CallR X f r) (h' : CallR X f r') : CallR X f (fun xs H Q => r xs H Q ∨ r' xs H Q) := by
  intro pins s σ H xs us Q I rs q
  rcases q with q | q
  · exact h pins s σ H xs us Q I rs q
  · exact h' pins s σ H xs us Q I rs q
/-- int(x): an int, a bool, a text -/
def rIntT : List V → Hp → VK → Prop := fun xs H Q => ∃ a n, xs = [.str a] ∧ PySem.intText? a = some n ∧ a.length ≤ 640 ∧ Q (.int n) H
def rIntL (K : PySem.W.Frag) : List V → Hp → VK → Prop := fun xs H Q => ∃ a n, xs = [.str a] ∧ PySem.intText? a = some n ∧ PySem.W.nsIn K cStatics "sys.int_max_str_digits" = some none ∧ ¬ (numSeenOf a).length ≤ 640 ∧ a.length ≤ sizeLine ∧ Q (.int n) H
theorem ns_none {K : PySem.W.Frag} {h : Heap} {a : Addr} {m : Str → Option Value} {x : Str} (kin : K.In h) (g : h.Ns a m) (e : PySem.W.nsIn K a x = some none) : m x = none := by
  obtain ⟨o, es, ep, ho, hd, _, hf⟩ := g
  cases hk : K.lookup a with
  | none => unfold PySem.W.nsIn at e; rw [hk] at e; cases e
  | some o' =>
    have z := kin _ _ hk
    rw [ho] at z
    cases z
    obtain ⟨c, d, dt, sl⟩ := o
    cases hd
    unfold PySem.W.nsIn at e
    rw [hk] at e
    cases he : es.toList.find? (·.key.isStr x) with
    | some y =>
      exfalso
      revert e
      show (match es.toList.find? (·.key.isStr x) with | some e => some (some e.val) | none => if es.toList.any (·.refKey) then none else some none) = some none → False
      rw [he]
      intro e; cases e
    | none =>
      rw [← hf]
      unfold nsFind findBy
      rw [← Array.find?_toList, he]
      rfl
theorem digits_free {K : PySem.W.Frag} {h : Heap} (kin : K.In h) (hl : h.NoLimit) (e : PySem.W.nsIn K cStatics "sys.int_max_str_digits" = some none) : DigitsFree h := by
  obtain ⟨mc, hn, _⟩ := hl
  refine ⟨mc, hn, ?_⟩
  exact ns_none kin hn e
def rIntU (K : PySem.W.Frag) : List V → Hp → VK → Prop := fun xs H Q => rInt1 xs H Q ∨ rIntT xs H Q ∨ rIntL K xs H Q
theorem callIntL : CallR X (.type "int") (rIntL X.K) := by
  intro pins s σ H xs us Q I rs h
  obtain ⟨a, n, rfl, hn, hk, hl, hz, q⟩ := h
  obtain ⟨u, rfl, rx⟩ := vals1 rs
  obtain ⟨t, rfl⟩ := rx
  rcases read4300 a hz with ⟨m, e1, e2, e3⟩ | ⟨e1, _⟩
  · rw [hn] at e1
    cases e1
    exact call_textL (digits_free I.kIn I.nolimit hk) hl e3 e2 ⟨.int n, H, I.tok _, ⟨_, rfl⟩, q⟩
  · rw [hn] at e1; cases e1
theorem callInt : CallR X (.type "int") (rIntU X.K) := CallR.or call_int1 (CallR.or call_int_str callIntL)
def rListU (K : PySem.W.Frag) : List V → Hp → VK → Prop := fun xs H Q => (∃ p ys, xs = [.ref p] ∧ (SqL K H p ys ∨ SqT K H p ys) ∧ ∀ l, H l = none → Q (.ref l) (upd H l (.lst ys))) ∨ rListS xs H Q
theorem callList (hc : X.calm = true) : CallR X (.type "list") (rListU X.K) := CallR.or call_list_of (call_listS hc)
end
end L3
end
section
namespace KX
open PySem PySem.Spec PyProof.Rows L2 LamX L3
section
variable {X : Cx} {K : PySem.W.Frag} (hK : X.K = K := by rfl)
include hK
theorem opIn : OpR X (compareOp .In) (rInU K) := by subst hK; exact L3.opIn
theorem ixU : IxR X (rIxU K) := by subst hK; exact L3.ixU
theorem slU : SlR X (rSlU K) := by subst hK; exact L3.slU
theorem callInt : CallR X (.type "int") (rIntU K) := by subst hK; exact L3.callInt
theorem callIsi : CallR X (.builtin "isinstance") (rIsiA K) := by subst hK; exact L3.callIsi
theorem callLen : CallR X (.builtin "len") (rLen1 K) := by subst hK; exact call_len
theorem callList (hc : X.calm = true) : CallR X (.type "list") (rListU K) := by subst hK; exact L3.callList hc
theorem callAll (hc : X.calm = true) : CallR X (.builtin "all") (rAll K) := by subst hK; exact cr_all hc
theorem eqU (hu : X.A.units + 64 < cLine) : OpR X (compareOp .Eq) (rEqU K) := by subst hK; exact opEq hu
theorem neU (hu : X.A.units + 64 < cLine) : OpR X (compareOp .NotEq) (rNeU K) := by subst hK; exact opNe hu
theorem fld {e : Expr} {f : Str} {pos : Pos} {ta : TE} (ha : PE X e ta) (hb : attributeBase e f X.env (eval e X.env) = eval e X.env) : PE X (.Attribute e f pos) (tFld K ta f) := by subst hK; exact pe_fld ha hb
end
end KX
namespace L3
open PySem PySem.Spec PyProof.Rows L2 LamX
section
variable {σ : L2.St} {H : Hp} {D : Ends} {Q : VK} {v x y : V} {K : PySem.W.Frag} {te ta tb : TE}
theorem iteNF {A B : Prop} (h : A) : if (!false) = true then A else B := iteT h
theorem iteNT {A B : Prop} (h : B) : if (!true) = true then A else B := iteF h
theorem s_pair {i j : Nat} {tt : TA} (h : tt σ H fun vs H1 => ∃ v w, vs = [v, w] ∧ D.nx ((σ.set i (some v)).set j (some w)) H1) : tPar i j tt D σ H := h
theorem s_pair2 {R : V → V → Prop} (h : R x y) : ∃ v w, [x, y] = [v, w] ∧ R v w := ⟨x, y, rfl, h⟩
theorem s_fld {tv : TE} {f : Str} (h : tv σ H fun y H1 => ta σ H1 fun x H2 => ∃ a C dx fs, x = .ref a ∧ H2 a = some (.ins C dx fs) ∧ Cls K C ∧ NoAttr K C f ∧ fs.length < 1000 ∧ D.nx σ (upd H2 a (.ins C dx (putF f y fs)))) : sFld K ta tv f D σ H := h
theorem s_make {C : Addr} {sp : Sp} {dvs : List V} {E : XK} {tt : TA} (h : tt σ H fun vs H1 => ∀ p dx, H1 p = none → H1 dx = none → dx ≠ p → sp (.ref p :: (vs ++ dvs)) (upd (upd H1 dx (.own p)) p (.ins C dx [])) (fun v H2 => v = .non ∧ ap Q (.ref p) H2) E) : tMake C sp dvs E tt σ H Q := h
theorem s_pow {g : Int → Int → V} {i j : Int} (c : CPow i j) (h : Q (g i j) H) : rI CPow g (.int i) (.int j) H Q := ⟨i, j, rfl, rfl, c, h⟩
theorem s_m1 {r : V → List V → Hp → VK → Prop} (h : ta σ H fun x H1 => (∃ a, x = .str a) ∧ tb σ H1 fun y H2 => r x [y] H2 Q) : tM1 r ta tb σ H Q := h
theorem s_isstr {z : Str} {R : Prop} (h : R) : (∃ a, V.str z = .str a) ∧ R := ⟨⟨z, rfl⟩, h⟩
theorem s_addI {i j : Int} (h : Q (.int (i + j)) H) : rAddU (.int i) (.int j) H Q := .inl ⟨i, j, rfl, rfl, h⟩
theorem s_addL {l b : Addr} {xs zs : List V} (e : H l = some (.lst xs)) (e' : H b = some (.lst zs)) (z : xs.length + zs.length ≤ sizeLine) (h : ∀ p H2, H p = none → Ex H H2 → H2 p = some (.lst (xs ++ zs)) → Q (.ref p) H2) : rAddU (.ref l) (.ref b) H Q :=
  .inr (.inr ⟨l, b, xs, zs, rfl, rfl, e, e', z, fun p hp => h p _ hp (ex_new hp) upd_same⟩)
theorem s_mulI {i j : Int} (c : IntMulOk i j) (h : Q (.int (i * j)) H) : rMulU (.int i) (.int j) H Q := .inl ⟨i, j, rfl, rfl, c, h⟩
theorem s_isN (h : Q (.bl (decide (x = .non))) H) : rIsU x .non H Q := .inl ⟨rfl, h⟩
theorem s_isB {a b : Bool} (h : Q (.bl (decide (a = b))) H) : rIsU (.bl a) (.bl b) H Q := .inr ⟨a, b, rfl, rfl, h⟩
theorem s_nisN (h : Q (.bl (!decide (x = .non))) H) : rIsNotU x .non H Q := .inl ⟨rfl, h⟩
theorem s_nisB {a b : Bool} (h : Q (.bl (!decide (a = b))) H) : rIsNotU (.bl a) (.bl b) H Q := .inr ⟨a, b, rfl, rfl, h⟩
theorem s_inS {c : Nat} {z : Str} (h : Q (.bl (decide (c ∈ z.cps.toList))) H) : rInU K (.str ⟨#[c]⟩) (.str z) H Q := .inl ⟨c, z, rfl, rfl, h⟩
theorem s_ninS {c : Nat} {z : Str} (h : Q (.bl (!decide (c ∈ z.cps.toList))) H) : rNotInU K (.str ⟨#[c]⟩) (.str z) H Q := .inl ⟨c, z, rfl, rfl, h⟩
theorem s_inT {p : Addr} {xs : List V} (hs : SqT K H p xs) (hx : flatV x = true) (ha : xs.all flatV = true) (h : Q (.bl (inV x xs)) H) : rInU K x (.ref p) H Q := .inr ⟨p, xs, rfl, .inr hs, hx, ha, h⟩
theorem s_iL {p : Addr} {xs : List V} {i : Int} (hp : H p = some (.lst xs)) (e : atI xs i = some v) (h : Q v H) : rIxU K (.ref p) (.int i) H Q := .inl ⟨p, xs, i, v, rfl, rfl, .inl (.inl hp), e, h⟩
theorem s_iT {p : Addr} {xs : List V} {i : Int} (hp : H p = some (.tup xs)) (e : atI xs i = some v) (h : Q v H) : rIxU K (.ref p) (.int i) H Q := .inr (.inl ⟨p, xs, i, v, rfl, rfl, .inl (.inl hp), e, h⟩)
theorem s_slice {r : V → Option Int → Option Int → Hp → VK → Prop} {tl th : TO} (h : te σ H fun x H1 => tl σ H1 fun l H2 => th σ H2 fun u H3 => r x l u H3 Q) : tSl r te tl th σ H Q := h
theorem s_part {R : Option Int → Hp → Prop} (h : te σ H fun x H1 => ∃ i, x = .int i ∧ R (some i) H1) : tPart te σ H R := h
theorem s_partI {R : Int → Prop} {i : Int} (h : R i) : ∃ j, V.int i = .int j ∧ R j := ⟨i, rfl, h⟩
theorem s_nopart {R : Option Int → Hp → Prop} (h : R none H) : tNoPart σ H R := h
theorem s_slL {p : Addr} {xs : List V} {lo hi : Option Int} (hs : SqL K H p xs) (h : ∀ q H2, H q = none → Ex H H2 → H2 q = some (.lst (cutV xs lo hi)) → Q (.ref q) H2) : rSlU K (.ref p) lo hi H Q :=
  .inl ⟨p, xs, rfl, hs, fun q hq => h q _ hq (ex_new hq) upd_same⟩
theorem s_cI {i : Int} (h : Q (.int i) H) : rIntU K [.int i] H Q := .inl (.inl ⟨i, rfl, h⟩)
theorem s_cB {b : Bool} (h : Q (.int (if b then 1 else 0)) H) : rIntU K [.bl b] H Q := .inl (.inr ⟨b, rfl, h⟩)
theorem s_listL {p : Addr} {xs : List V} (hs : SqL K H p xs) (h : ∀ q H2, H q = none → Ex H H2 → H2 q = some (.lst xs) → Q (.ref q) H2) : rListU K [.ref p] H Q :=
  .inl ⟨p, xs, rfl, .inl hs, fun q hq => h q _ hq (ex_new hq) upd_same⟩
theorem s_isiT {n : String} {t : Value} {b : Bool} (ty : TyA K H x t) (e : PySem.W.kitOne K t (.type n) = some b) (h : Q (.bl b) H) : rIsiA K [x, .ty n] H Q := ⟨x, .ty n, t, .type n, b, rfl, .ty n, ty, e, h⟩
theorem s_isiC {C : Addr} {t : Value} {b : Bool} (ty : TyA K H x t) (e : PySem.W.kitOne K t (.ref C) = some b) (h : Q (.bl b) H) : rIsiA K [x, .ref C] H Q := ⟨x, .ref C, t, .ref C, b, rfl, .own C, ty, e, h⟩
theorem s_chain {r r' : R2} {tc : TE} (h : ta σ H fun x H1 => tb σ H1 fun y H2 => r x y H2 fun z H3 => ∃ k, z = .bl k ∧ (if k = true then tc σ H3 fun w' H4 => r' y w' H4 Q else Q (.bl false) H3)) : tChain r r' ta tb tc σ H Q := h
theorem s_bm {T : String} {r : V → List V → Hp → VK → Prop} {t : TA} (h : te σ H fun x H1 => tyV K T x H1 ∧ t σ H1 fun xs H2 => r x xs H2 Q) : tBM K T r te t σ H Q := h
theorem s_tyL {p : Addr} {xs : List V} {R : Prop} (hp : H p = some (.lst xs)) (h : R) : tyV K "list" (.ref p) H ∧ R := ⟨.inl ⟨rfl, _, .inl (.inl hp)⟩, h⟩
theorem s_app {p : Addr} {xs : List V} (hp : H p = some (.lst xs)) (hz : xs.length < sizeLine) (h : Q .non (upd H p (.lst (xs ++ [y])))) : rAppend (.ref p) [y] H Q := ⟨p, xs, y, rfl, rfl, hp, hz, h⟩
theorem s_all {a : Addr} {bs : List Bool} (hs : H a = some (.lst (bs.map V.bl))) (h : Q (.bl (bs.all id)) H) : rAll K [.ref a] H Q := ⟨a, bs, rfl, .inl (.inl hs), h⟩
def LC (J : It) (g : TG) (tt : TT) (te : TE) (vs : List Nat) (σ : L2.St) (H1 : Hp) (Q : VK) : Prop := ∀ D, H1 D = none → ∃ W : Nat → Nat → Hp → Prop, (∃ m, W 0 m (upd H1 D (.lst []))) ∧ ∀ i m H, W i m H →
  (J.stop i H ∧ Q (.ref D) H) ∨ (J.go i H ∧ ∃ Nx : Hp → Prop, (∀ H', Nx H' → ∃ m', m' < m ∧ W (i + 1) m' H') ∧ ∀ x H', J.yld i H x H' → g x (wipe σ vs) H' fun σ2 H2 => wipe σ2 vs = wipe σ vs ∧ tt σ2 H2 fun b H3 =>
    if b = true then te σ2 H3 fun y H4 => ∃ acc, H4 D = some (.lst acc) ∧ acc.length < sizeLine ∧ Nx (upd H4 D (.lst (acc ++ [y]))) else Nx H3)
theorem s_lcS {g : TG} {tt : TT} {vs : List Nat} (h : ta σ H fun v H1 => ∃ z, v = .str z ∧ LC (Its z) g tt te vs σ H1 Q) : tLc (iStr ta) g tt te vs σ H Q := h
theorem s_lcR {g : TG} {tt : TT} {vs : List Nat} {tr : TA} (h : tr σ H fun ws H1 => ∃ j : Int, ws = [.int j] ∧ -(2 ^ 62) ≤ j ∧ j < 2 ^ 62 ∧ LC (Itr 0 j.toNat) g tt te vs σ H1 Q) : tLc (iRng1 tr) g tt te vs σ H Q := h
theorem s_strE {R : Str → Prop} {z : Str} (h : R z) : ∃ y, V.str z = .str y ∧ R y := ⟨z, rfl, h⟩
theorem lcStr {z : Str} {j : Nat} {tt : TT} {vs : List Nat} (p : Nat → Bool) (f : Nat → V) (hz : z.length < sizeLine) (hw : ∀ x, wipe ((wipe σ vs).set j (some x)) vs = wipe σ vs)
    (ht : ∀ (c : Nat) (H' : Hp) (R : Bool → Hp → Prop), R (p c) H' → tt ((wipe σ vs).set j (some (.str ⟨#[c]⟩))) H' R) (he : ∀ (c : Nat) (H' : Hp) (R : VK), p c = true → R (f c) H' → te ((wipe σ vs).set j (some (.str ⟨#[c]⟩))) H' R)
    (k : ∀ q H2, H q = none → Ex H H2 → H2 q = some (.lst ((z.cps.toList.filter p).map f)) → Q (.ref q) H2) : LC (Its z) (gName j) tt te vs σ H Q := by
  intro Dl hD
  have hlen : z.cps.toList.length = z.cps.size := Array.length_toList
  refine lc_it walk_str (fun i H' => Ex H H' ∧ H' Dl = some (.lst (((z.cps.toList.take i).filter p).map f)) ∧ ∀ b, b ≠ Dl → H' b = H b) ⟨ex_new hD, by rw [upd_same]; rfl, fun b hb => upd_ne hb⟩ (fun _ _ _ _ => trivial) ?_ ?_
  · rintro i x H1 H2 hi ⟨e1, e2, e3⟩ ⟨rfl, c, hc, rfl⟩
    have hc' : z.cps.toList[i]? = some c := by simpa using hc
    have htk : z.cps.toList.take (i + 1) = z.cps.toList.take i ++ [c] := by rw [List.take_add_one, hc']; rfl
    show wipe _ vs = wipe σ vs ∧ _
    refine ⟨hw _, ht c H2 _ ?_⟩
    refine iteB (fun hp => ?_) (fun hp => ?_)
    · refine he c H2 _ hp ⟨_, e2, ?_, fun b o hb => ?_, ?_, fun b hb => ?_⟩
      · rw [List.length_map]
        refine Nat.lt_of_le_of_lt (List.length_filter_le _ _) (Nat.lt_of_le_of_lt ?_ hz)
        rw [List.length_take]
        show _ ≤ z.cps.size
        omega
      · rw [upd_ne (ne_of_none hb hD)]
        exact e1 b o hb
      · rw [upd_same, htk, List.filter_append, List.map_append]
        simp [hp]
      · rw [upd_ne hb]; exact e3 b hb
    · refine ⟨e1, ?_, e3⟩
      rw [e2, htk, List.filter_append, List.map_append]
      simp [hp]
  · rintro H1 ⟨e1, e2, _⟩
    rw [show z.cps.size = z.cps.toList.length from hlen.symm, List.take_length] at e2
    exact k _ _ hD e1 e2
end
end L3
end
section
local macro_rules | `(tactic| tm_at "s1") => `(tactic| first
  | with_reducible first
    | refine L3.s_seq ?_ | refine L3.s_asg ?_ | refine L3.s_op ?_ | refine L3.s_c ?_ | refine L3.s_cb ?_ | refine L3.s_cons ?_ | refine L3.s_nil ?_ | refine L3.s_test ?_ | refine L3.s_bl ?_
    | refine L3.s_I0 ?_ | refine L3.s_and ?_ | refine L3.s_or ?_ | refine L3.s_not ?_ | refine L3.s_if ?_ | refine L3.s_next ?_ | refine L3.s_ret ?_ | refine L3.s_retN ?_ | refine L3.s_asgS ?_ | refine L3.s_drop ?_
    | refine L3.s_un ?_ | refine L3.s_U ?_ | refine L3.s_int ?_ | refine L3.s_intB ?_ | refine L3.s_abs ?_ | refine L3.s_andV ?_ | refine L3.s_orV ?_ | refine L3.s_notV ?_ | refine L3.s_ifE ?_ | refine L3.s_call ?_ | refine L3.s_lst ?_ | refine L3.s_tup ?_ | refine L3.s_tB ?_
    | refine L3.s_addI ?_ | refine L3.s_inS ?_ | refine L3.s_ninS ?_ | refine L3.s_slice ?_ | refine L3.s_part ?_ | refine L3.s_partI ?_ | refine L3.s_nopart ?_ | refine L3.s_cI ?_ | refine L3.s_cB ?_ | refine L3.s_chain ?_ | refine L3.s_bm ?_ | refine L3.s_lcS ?_ | refine L3.s_lcR ?_ | refine L3.s_strE ?_
    | refine L2.iteT ?_ | refine L2.iteF ?_ | refine L3.iteNF ?_ | refine L3.iteNT ?_
    | refine L3.s_eqI ?_ | refine L3.s_neI ?_ | refine L3.s_eqS ?_ | refine L3.s_neS ?_
    | refine L3.s_pair ?_ | refine L3.s_pair2 ?_ | refine L3.s_fld ?_ | refine L3.s_make ?_ | refine L3.s_m1 ?_ | refine L3.s_isstr ?_
    | refine L3.s_isN ?_ | refine L3.s_isB ?_ | refine L3.s_nisN ?_ | refine L3.s_nisB ?_
  | ((with_reducible refine' L3.s_var ?e ?_); (case e => rfl))
  | ((with_reducible refine' L3.s_pow ?c ?_); (case c => exact ⟨by decide, by decide, by decide⟩)))
local macro_rules | `(tactic| tm_at "s") => `(tactic| repeat tm_at "s1")
namespace L3
open PySem PySem.Spec PyProof.Rows L2
theorem mulL {i j : Int} (h : -(2 ^ 64) < i ∧ i < 2 ^ 64) : IntMulOk i j := CMul.ok (.inl h)
def spDraw : Sp := fun vs H Q _ => ∃ a n many, vs = [.ref a, .int many] ∧ 0 < many ∧ many.natAbs < 2 ^ 8000 ∧ Pen H a n ∧ n < lim ∧
  ∀ (d : Int) (H' : Hp), 0 ≤ d → d < many → Pen H' a (n + 1) → (∀ b o, b ≠ a → H b = some o → H' b = some o) → Q (.int d) H'
abbrev rSub : R2 := rI0 fun i j => V.int (i - j)
abbrev rMod : R2 := rI (fun _ j => 0 < j) fun i j => V.int (i % j)
abbrev rDivW : R2 := rI CDivW fun i j => V.int (i / j)
abbrev rPow : R2 := rI CPow fun i j => V.int (i ^ j.toNat)
abbrev t1 (r : List V → Hp → VK → Prop) (te : TE) : TE := tCB r (tCons te tNil)
abbrev tI (i : Int) : TE := tC (.int i)
def tDraw (K : PySem.W.Frag) (c1 c2 c3 c4 c5 c6 c7 c8 c9 c10 : Int) : TS :=
  tSeq (tIfS (tTest (tOp (rI0 fun i j => V.bl (decide (j < i))) (tOp (rIxU K) (tVar 0) (tI 2)) (tI 0)))
    (tSeq (tAsg (tOp rMod (t1 (rIntU K) (tOp (rIxU K) (tVar 0) (tI 2))) (tVar 1)) (gName 2))
    (tSeq (tAsg (tOp rDivW (t1 (rIntU K) (tOp (rIxU K) (tVar 0) (tI 2))) (tVar 1)) (gSub (tVar 0) (tI 2) rSetL))
      (tRet (tVar 2)))) tNext)
  (tSeq (tAsg (tOp (rIxU K) (tVar 0) (tI 1)) (gName 3))
  (tSeq (tAsg (tOp rAddU (tVar 3) (tI 1)) (gSub (tVar 0) (tI 1) rSetL))
  (tSeq (tAsg (tOp rAddU (tOp rMulU (tI c1) (tVar 3)) (tI c2)) (gName 4))
  (Evl.tCut (tIfS (tTest (tOp (rNeU K) (tOp (rIxU K) (tVar 0) (tI 0)) (tLst tNil)))
    (tAsg (tOp (rIxU K) (tOp (rIxU K) (tVar 0) (tI 0)) (tOp rMod (t1 (rIntU K) (tVar 3)) (t1 (rLen1 K) (tOp (rIxU K) (tVar 0) (tI 0))))) (gName 4)) tNext)
  (tSeq (tIfS (tAnd (tTest (tOp (rI0 fun i j => V.bl (decide (i < j))) (tVar 3) (t1 (rLen1 K) (tOp (rIxU K) (tVar 0) (tI 0))))) (tTest (tOp (rI0 fun i j => V.bl (decide (j ≤ i))) (t1 rAbs1 (tVar 4)) (tOp rPow (tI 10) (tI 18)))))
    (tSeq (tAsg (tOp rAddU (tOp rMulU (tI 2) (tOp rSub (t1 rAbs1 (tVar 4)) (tOp rPow (tI 10) (tI 18)))) (t1 (rIntU K) (tOp (rI0 fun i j => V.bl (decide (i < j))) (tVar 4) (tI 0)))) (gName 5))
    (tSeq (tAsg (tOp rDivW (t1 (rIntU K) (tVar 5)) (tVar 1)) (gSub (tVar 0) (tI 2) rSetL))
      (tRet (tOp rMod (t1 (rIntU K) (tVar 5)) (tVar 1))))) tNext)
  (tSeq (tAsg (tOp rMod (t1 (rIntU K) (tOp rPow (tOp rAddU (tOp rAddU (tOp rMod (t1 (rIntU K) (tVar 4)) (tI c3)) (tOp rMulU (tI c4) (tVar 3))) (tI c5)) (tI 5))) (tI c6)) (gName 6))
  (tSeq (tAsg (tOp rMod (t1 (rIntU K) (tOp rPow (tOp rAddU (tOp rAddU (tOp rMulU (tVar 6) (tOp rAddU (tOp rMulU (tI 2) (tVar 3)) (tI c7))) (tOp rMulU (tOp rMulU (tI c8) (tVar 3)) (tVar 3))) (tI c9)) (tI 3))) (tI c10)) (gName 6))
    (tRet (tOp rMod (t1 (rIntU K) (tOp rDivW (tVar 6) (tI 32))) (tVar 1))))))))))
structure DrawC (c1 c2 c3 c4 c5 c6 c7 c8 c9 c10 : Int) : Prop where
  h1 : 0 ≤ c1 ∧ c1 < 1000000
  h3 : 0 < c3 ∧ c3 < 4294967296
  h4 : 0 ≤ c4 ∧ c4 < 1000000
  h5 : 0 ≤ c5 ∧ c5 < 1000000
  h6 : 0 < c6 ∧ c6 < 4294967296
  h7 : 0 ≤ c7 ∧ c7 < 1000000
  h8 : 0 ≤ c8 ∧ c8 < 1000000
  h9 : 0 ≤ c9 ∧ c9 < 1000000
  h10 : 0 < c10 ∧ c10 < 4294967296
theorem shInts (ns : List Int) : SeqAt.shaped (.list (ns.map PyData.int)) = true := by
  have h1 : ∀ l : List Int, PyData.canLayAll0 (l.map PyData.int) = true := by
    intro l
    induction l with
    | nil => rfl
    | cons x r ih => rw [List.map_cons]; unfold PyData.canLayAll0; rw [ih]; rfl
  have h2 : ∀ l : List Int, PyData.depthAll (l.map PyData.int) = 0 := by
    intro l
    induction l with
    | nil => rfl
    | cons x r ih => rw [List.map_cons]; unfold PyData.depthAll; rw [ih]; rfl
  unfold SeqAt.shaped PyData.canLay0 PyData.depth
  rw [h1, h2]; decide
theorem atI_int {α : Type} {xs : List α} {i : Int} (h0 : 0 ≤ i) (h : i < xs.length) : atI xs i = xs[i.toNat]? := by
  unfold atI ixN
  rw [if_pos h0, if_pos h]
  rfl
theorem natAbs_lt {x : Int} {k : Nat} (h0 : 0 ≤ x) (h : x < k) : x.natAbs < k := by omega
theorem rd_draw {K : PySem.W.Frag} {c1 c2 c3 c4 c5 c6 c7 c8 c9 c10 : Int} (C : DrawC c1 c2 c3 c4 c5 c6 c7 c8 c9 c10) {a c : Addr} {n : Nat} {many : Int} {ns : List Int} {H : Hp} {Q : VK} {Nn : L2.St → Hp → Prop} {B1 B2 : L2.St → Hp → Prop}
    (hm : 0 < many) (hm2 : many.natAbs < 2 ^ 8000) (ha : H a = some (PenO a c n)) (hc : H c = some (.lst (ns.map V.int))) (hn : n < lim) (hl : ns.length ≤ 63)
    (k : ∀ (d : Int) (H' : Hp), 0 ≤ d → d < many → (H' a = some (PenO a c (n + 1)) ∧ H' c = some (.lst (ns.map V.int))) → (∀ b o, b ≠ a → H b = some o → H' b = some o) → Q (.int d) H') :
    tPen a c n (n + 1) (tDraw K c1 c2 c3 c4 c5 c6 c7 c8 c9 c10) { nx := Nn, rt := Q, bk := B1, ct := B2 } [some (.ref a), some (.int many), none, none, none, none, none] H := by
  refine ⟨ha, fun spot rest h0 h1 => ?_⟩
  have nca : c ≠ a := fun z => by rw [z, ha] at hc; cases hc
  have fin : ∀ (d spot' rest' : Int) (H1 : Hp), 0 ≤ d → d < many → 0 ≤ spot' → spot' ≤ n + 1 → H1 a = some (.lst [.ref c, .int spot', .int rest']) → (∀ b o, b ≠ a → H b = some o → H1 b = some o) → penBack a c (n + 1) (Q (.int d)) H1 := by
    intro d sp re H1 d0 d1 s0 s1 e q
    exact ⟨sp, re, e, s0, by omega, k d _ d0 d1 ⟨upd_same, by rw [upd_ne nca]; exact q c _ nca hc⟩ (fun b o hb => by rw [upd_ne hb]; exact q b o hb)⟩
  unfold tDraw
  tm_at "s"
  refine s_iL upd_same rfl ?_
  tm_at "s"
  refine iteD (fun hpos => ?_) (fun _ => ?_)
  · tm_at "s"
    refine s_iL upd_same rfl ?_
    tm_at "s"
    refine s_I hm ?_
    tm_at "s"
    refine s_iL upd_same rfl ?_
    tm_at "s"
    refine s_I (wide_div hm hm2 (by decide) (by decide)) ?_
    tm_at "s"
    refine s_setL upd_same rfl ?_
    tm_at "s"
    exact fin _ spot _ _ (Int.emod_nonneg _ (by omega)) (Int.emod_lt_of_pos _ hm) h0 (by omega) upd_same (fun b o hb hh => by rw [upd_ne hb, upd_ne hb]; exact hh)
  · tm_at "s"
    refine s_iL upd_same rfl ?_
    tm_at "s"
    refine s_setL upd_same rfl ?_
    have hs : (spot : Int) ≤ 1000000 := by unfold lim at hn; omega
    tm_at "s"
    refine s_mulI (mulL ⟨by have := C.h1; omega, by have := C.h1; omega⟩) ?_
    tm_at "s"
    refine s_cut (M := fun σ' H' => ∃ cell : Int, σ' = [some (.ref a), some (.int many), none, some (.int spot), some (.int cell), none, none] ∧ H' a = some (.lst [.ref c, .int (spot + 1), .int rest]) ∧ ∀ b o, b ≠ a → H b = some o → H' b = some o) ?_ ?_
    · tm_at "s"
      refine s_iL upd_same rfl ?_
      tm_at "s"
      refine s_new (by decide) fun p H2 hp e2 h2 => ?_
      have a2 : H2 a = some (.lst [.ref c, .int (spot + 1), .int rest]) := e2 _ _ upd_same
      have k2 : ∀ b o, b ≠ a → H b = some o → H2 b = some o := fun b o hb hh => e2 _ _ (by rw [upd_ne hb, upd_ne hb]; exact hh)
      have c2 := k2 c _ nca hc
      clear hp e2
      refine s_neD' (.lst (.inl (.inl c2)) (dpInts ns)) (.lst (.inl (.inl h2)) .nil) (shInts ns) rfl ?_
      tm_at "s"
      refine iteB (fun hne => ?_) (fun _ => ?_)
      · tm_at "s"
        refine s_iL a2 rfl ?_
        tm_at "s"
        refine s_iL a2 rfl ?_
        tm_at "s"
        refine s_lenL c2 ?_
        rw [List.length_map]
        have hns : 0 < ns.length := by
          cases ns with
          | nil => exact absurd hne (by decide)
          | cons x r => exact Nat.succ_pos _
        refine s_I (by omega) ?_
        have hx : spot % (ns.length : Int) < ns.length := Int.emod_lt_of_pos _ (by omega)
        have hx0 : 0 ≤ spot % (ns.length : Int) := Int.emod_nonneg _ (by omega)
        have hxn : (spot % (ns.length : Int)).toNat < ns.length := by omega
        refine s_iL c2 (v := .int (ns[(spot % (ns.length : Int)).toNat]'hxn)) ?_ ?_
        · rw [atI_int hx0 (by rw [List.length_map]; exact hx), List.getElem?_map, List.getElem?_eq_getElem hxn]
          rfl
        · exact ⟨_, rfl, a2, k2⟩
      · tm_at "s"
        exact ⟨_, rfl, a2, k2⟩
    · rintro σ' H2 ⟨cell, rfl, a2, k2⟩
      have c2 := k2 c _ nca hc
      have main : (tSeq (tAsg (tOp rMod (t1 (rIntU K) (tOp rPow (tOp rAddU (tOp rAddU (tOp rMod (t1 (rIntU K) (tVar 4)) (tI c3)) (tOp rMulU (tI c4) (tVar 3))) (tI c5)) (tI 5))) (tI c6)) (gName 6))
          (tSeq (tAsg (tOp rMod (t1 (rIntU K) (tOp rPow (tOp rAddU (tOp rAddU (tOp rMulU (tVar 6) (tOp rAddU (tOp rMulU (tI 2) (tVar 3)) (tI c7))) (tOp rMulU (tOp rMulU (tI c8) (tVar 3)) (tVar 3))) (tI c9)) (tI 3))) (tI c10)) (gName 6))
            (tRet (tOp rMod (t1 (rIntU K) (tOp rDivW (tVar 6) (tI 32))) (tVar 1)))))
          { nx := fun σ' => penBack a c (n + 1) (Nn σ'), rt := fun v => penBack a c (n + 1) (Q v), bk := fun σ' => penBack a c (n + 1) (B1 σ'), ct := fun σ' => penBack a c (n + 1) (B2 σ') }
          [some (.ref a), some (.int many), none, some (.int spot), some (.int cell), none, none] H2 := by
        have hc3 := C.h3; have hc4 := C.h4; have hc5 := C.h5; have hc6 := C.h6; have hc7 := C.h7; have hc8 := C.h8; have hc9 := C.h9; have hc10 := C.h10
        tm_at "s"
        refine s_I hc3.1 ?_
        tm_at "s"
        refine s_mulI (mulL ⟨by omega, by omega⟩) ?_
        tm_at "s"
        have e1 : 0 ≤ cell % c3 := Int.emod_nonneg _ (by omega)
        have e2 : cell % c3 < c3 := Int.emod_lt_of_pos _ hc3.1
        have e3 : 0 ≤ c4 * spot := Int.mul_nonneg hc4.1 h0
        have e4 : c4 * spot ≤ 1000000 * 1000000 := Int.mul_le_mul (by omega) hs h0 (by decide)
        refine s_pow ⟨by decide, by decide, ?_⟩ ?_
        · exact natAbs_lt (by omega) (by show _ < ((2 ^ 64 : Nat) : Int); omega)
        tm_at "s"
        refine s_I hc6.1 ?_
        generalize hg : ((cell % c3 + c4 * spot + c5) ^ (Int.toNat 5)) % c6 = g
        have g0 : 0 ≤ g := by rw [← hg]; exact Int.emod_nonneg _ (by omega)
        have g1 : g < c6 := by rw [← hg]; exact Int.emod_lt_of_pos _ hc6.1
        tm_at "s"
        refine s_mulI (mulL (by decide)) ?_
        tm_at "s"
        refine s_mulI (mulL ⟨by omega, by omega⟩) ?_
        tm_at "s"
        refine s_mulI (mulL ⟨by omega, by omega⟩) ?_
        have f3 : 0 ≤ c8 * spot := Int.mul_nonneg hc8.1 h0
        have f4 : c8 * spot ≤ 1000000 * 1000000 := Int.mul_le_mul (by omega) hs h0 (by decide)
        tm_at "s"
        refine s_mulI (mulL ⟨by omega, by omega⟩) ?_
        have f5 : 0 ≤ c8 * spot * spot := Int.mul_nonneg f3 h0
        have f6 : c8 * spot * spot ≤ 1000000 * 1000000 * 1000000 := Int.mul_le_mul f4 hs h0 (by decide)
        have f7 : 0 ≤ g * (2 * spot + c7) := Int.mul_nonneg g0 (by omega)
        have f8 : g * (2 * spot + c7) ≤ 4294967296 * 3000000 := Int.mul_le_mul (by omega) (by omega) (by omega) (by decide)
        tm_at "s"
        refine s_pow ⟨by decide, by decide, ?_⟩ ?_
        · exact natAbs_lt (by omega) (by show _ < ((2 ^ 64 : Nat) : Int); omega)
        tm_at "s"
        refine s_I hc10.1 ?_
        tm_at "s"
        refine s_I (wide_div (b := 64) (by decide) (by decide) (by decide) (by decide)) ?_
        tm_at "s"
        refine s_I hm ?_
        exact fin _ (spot + 1) rest _ (Int.emod_nonneg _ (by omega)) (Int.emod_lt_of_pos _ hm) (by omega) (by omega) a2 k2
      tm_at "s"
      refine s_iL a2 rfl ?_
      tm_at "s"
      refine s_lenL c2 ?_
      tm_at "s"
      refine iteD (fun _ => ?_) (fun _ => ?_)
      · tm_at "s"
        refine iteD (fun hbig => ?_) (fun _ => ?_)
        · tm_at "s"
          refine s_mulI (mulL (by decide)) ?_
          tm_at "s"
          refine s_I (wide_div hm hm2 (by decide) (by decide)) ?_
          tm_at "s"
          refine s_setL a2 rfl ?_
          tm_at "s"
          refine s_I hm ?_
          exact fin _ (spot + 1) _ _ (Int.emod_nonneg _ (by omega)) (Int.emod_lt_of_pos _ hm) (by omega) (by omega) upd_same (fun b o hb hh => by rw [upd_ne hb]; exact k2 b o hb hh)
        · exact main
      · refine iteF ?_
        exact main
theorem rd_drawS {K : PySem.W.Frag} {c1 c2 c3 c4 c5 c6 c7 c8 c9 c10 : Int} (C : DrawC c1 c2 c3 c4 c5 c6 c7 c8 c9 c10) {a c : Addr} {n : Nat} {many : Int} {ns : List Int} {H : Hp} {Q : VK} {Nn : L2.St → Hp → Prop} {B1 B2 : L2.St → Hp → Prop}
    (hm : 0 < many) (hm2 : many.natAbs < 2 ^ 8000) (ha : H a = some (PenO a c n)) (hc : H c = some (ScO c ns)) (hn : n < lim) (hl : ns.length ≤ 63 ∧ c ≠ a)
    (k : ∀ (d : Int) (H' : Hp), 0 ≤ d → d < many → Pen H' a (n + 1) → (∀ b o, b ≠ a → H b = some o → H' b = some o) → Q (.int d) H') :
    tSc c ns (tPen a c n (n + 1) (tDraw K c1 c2 c3 c4 c5 c6 c7 c8 c9 c10)) { nx := Nn, rt := Q, bk := B1, ct := B2 } [some (.ref a), some (.int many), none, none, none, none, none] H := by
  refine ⟨hc, rd_draw C hm hm2 (by rw [upd_ne (Ne.symm hl.2)]; exact ha) upd_same hn hl.1 fun d H' d0 d1 ⟨p1, p2⟩ q => ?_⟩
  refine ⟨p2, k d _ d0 d1 ⟨c, ns, by rw [upd_ne (Ne.symm hl.2)]; exact p1, upd_same, hl⟩ fun b o hb ho => ?_⟩
  by_cases hbc : b = c
  · subst hbc
    rw [upd_same, ← hc]; exact ho
  · rw [upd_ne hbc]
    exact q b o hb (by rw [upd_ne hbc]; exact ho)
end L3
end
section
namespace L3
open PySem PySem.Spec PyProof.Rows L2 PySem.NumText
theorem str_ext {a b : Str} (h : a.cps.toList = b.cps.toList) : a = b := by
  cases a; cases b
  have := Array.ext' h
  cases this; rfl
theorem cut_take (z : Str) : (cutS z none (some 1)).cps.toList = z.cps.toList.take 1 := by
  unfold cutS
  have e0 : HT.sIx z.length 0 none = 0 := rfl
  have e1 : z.cps.toList.length = z.length := Array.length_toList
  rw [e0, List.drop_zero, Nat.sub_zero]
  show z.cps.toList.take (HT.sIx z.length z.length (some 1)) = _
  have : HT.sIx z.length z.length (some 1) = min 1 z.length := by
    unfold HT.sIx
    simp
    try omega
  rw [this]
  by_cases h : z.length = 0
  · rw [h]
    have : z.cps.toList = [] := List.length_eq_zero_iff.mp (e1.trans h)
    rw [this]; rfl
  · rw [show min 1 z.length = 1 by omega]
theorem cut_drop (z : Str) : (cutS z (some 1) none).cps.toList = z.cps.toList.drop 1 := by
  unfold cutS
  have e1 : z.cps.toList.length = z.length := Array.length_toList
  have e0 : HT.sIx z.length z.length none = z.length := rfl
  rw [e0]
  have : HT.sIx z.length 0 (some 1) = min 1 z.length := by
    unfold HT.sIx
    simp
    try omega
  rw [this]
  show (z.cps.toList.drop (min 1 z.length)).take (z.length - min 1 z.length) = _
  rw [List.take_of_length_le (by rw [List.length_drop]; omega)]
  by_cases h : z.length = 0
  · have : z.cps.toList = [] := List.length_eq_zero_iff.mp (e1.trans h)
    rw [this]; simp
  · rw [show min 1 z.length = 1 by omega]
abbrev digT : Str := "0123456789"
def isDig (c : Nat) : Bool := decide (c ∈ digT.cps.toList)
theorem isDig_iff (c : Nat) : isDig c = true ↔ 48 ≤ c ∧ c ≤ 57 := by
  unfold isDig
  rw [decide_eq_true_eq]
  show c ∈ [48, 49, 50, 51, 52, 53, 54, 55, 56, 57] ↔ _
  simp only [List.mem_cons, List.not_mem_nil, or_false]
  omega
def figsOf (z : Str) : Str := if decide (cutS z none (some 1) = "-") = true then cutS z (some 1) none else z
theorem figs_neg {z : Str} {r : List Nat} (h : z.cps.toList = 45 :: r) : (figsOf z).cps.toList = r := by
  unfold figsOf
  rw [if_pos, cut_drop, h]
  · rfl
  · refine decide_eq_true (str_ext ?_)
    rw [cut_take, h]; rfl
theorem figs_pos {z : Str} (h : z.cps.toList.head? ≠ some 45) : figsOf z = z := by
  unfold figsOf
  rw [if_neg]
  intro q
  have q := of_decide_eq_true q
  have q2 : (cutS z none (some 1)).cps.toList = [45] := by rw [q]; rfl
  rw [cut_take] at q2
  cases hz : z.cps.toList with
  | nil => rw [hz] at q2; cases q2
  | cons c r =>
    rw [hz] at q2 h
    have : c = 45 := by simpa using q2
    exact h (by rw [this]; rfl)
def figB (z : Str) : Bool := ((decide (1 ≤ ((figsOf z).length : Int)) && decide (((figsOf z).length : Int) ≤ 4000)) && (figsOf z).cps.toList.all isDig) && (decide (z = "0") || !decide ((figsOf z).cps.toList.head? = some 48))
theorem digits_all {l : List Nat} (h : l.all isDig = true) : AllDigits l := fun c hc => (isDig_iff c).mp (List.all_eq_true.mp h c hc)
/-- the number that a text of figures writes -/
def valOf (z : Str) : Int := if z.cps.toList.head? = some 45 then -((digitsVal (z.cps.toList.drop 1) : Nat) : Int) else ((digitsVal z.cps.toList : Nat) : Int)
theorem len_codes (z : Str) : z.cps.toList.length = z.length := Array.length_toList
def strOf (n : Int) : Str := Str.ofString (toString n)
theorem strOf_nat (n : Nat) : (strOf (n : Int)).cps.toList = TL.numL n := TL.tl_num n
theorem ofString_codes (s : String) : (Str.ofString s).cps.toList = s.toList.map Char.toNat := by
  rw [Str.ofString_eq_toList]
theorem strOf_neg {m : Nat} (h : 0 < m) : (strOf (-(m : Int))).cps.toList = 45 :: TL.numL m := by
  obtain ⟨k, rfl⟩ : ∃ k, m = k + 1 := ⟨m - 1, by omega⟩
  have e : toString (-((k + 1 : Nat) : Int)) = "-" ++ toString (((k + 1 : Nat) : Int)) := rfl
  unfold strOf
  rw [e, ofString_codes, String.toList_append, List.map_append, ← ofString_codes, ← ofString_codes]
  show [45] ++ _ = _
  have := strOf_nat (k + 1)
  unfold strOf at this
  rw [this]
  rfl
theorem val_snoc (ds : List Nat) (c : Nat) : digitsVal (ds ++ [c]) = digitsVal ds * 10 + (c - 48) := by
  unfold digitsVal
  rw [List.foldl_append]
  rfl
theorem canon : ∀ (n : Nat) (ds : List Nat), ds.length = n → AllDigits ds → ds ≠ [] → ds.head? ≠ some 48 → TL.numL (digitsVal ds) = ds ∧ 0 < digitsVal ds := by
  intro n
  induction n with
  | zero => intro ds h _ hne; exact absurd (List.length_eq_zero_iff.mp h) hne
  | succ n ih =>
    intro ds hl ha hne hh
    have hd : ds = ds.dropLast ++ [ds.getLast hne] := (List.dropLast_concat_getLast hne).symm
    generalize ds.getLast hne = c at hd
    generalize ds.dropLast = es at hd
    subst hd
    have hc := ha c (by simp)
    rw [val_snoc]
    by_cases he : es = []
    · subst he
      have hc0 : c ≠ 48 := fun z => hh (by rw [z]; rfl)
      show TL.numL (0 * 10 + (c - 48)) = [c] ∧ _
      rw [Nat.zero_mul, Nat.zero_add, TL.numL_lt (by omega)]
      exact ⟨by rw [show 48 + (c - 48) = c by omega], by show 0 < 0 * 10 + (c - 48); omega⟩
    · have hl' : es.length = n := by simp at hl; omega
      have hh' : es.head? ≠ some 48 := by
        cases es with
        | nil => exact absurd rfl he
        | cons a b => exact hh
      obtain ⟨i1, i2⟩ := ih es hl' (fun d hd => ha d (by simp [hd])) he hh'
      refine ⟨?_, by omega⟩
      rw [TL.numL_step (by omega), show (digitsVal es * 10 + (c - 48)) / 10 = digitsVal es by omega, i1, show (digitsVal es * 10 + (c - 48)) % 10 = c - 48 by omega, show 48 + (c - 48) = c by omega]
theorem numL_head (n : Nat) : TL.numL n = [48] ∧ n = 0 ∨ (TL.numL n).head? ≠ some 48 ∧ 0 < n := by
  induction n using Nat.strongRecOn with
  | _ n ih =>
    by_cases h : n < 10
    · rw [TL.numL_lt h]
      by_cases h0 : n = 0
      · left; subst h0; exact ⟨rfl, rfl⟩
      · right; exact ⟨fun z => by have : 48 + n = 48 := by simpa using z
                                  omega, by omega⟩
    · right
      refine ⟨?_, by omega⟩
      rw [TL.numL_step (by omega)]
      rcases ih (n / 10) (by omega) with ⟨_, z⟩ | ⟨z, _⟩
      · omega
      · cases hq : TL.numL (n / 10) with
        | nil => exact absurd hq (TL.numL_ne _)
        | cons a b => rw [hq] at z; exact z
theorem head45 {l : List Nat} (h : l.head? = some 45) : ∃ r, l = 45 :: r := by
  cases l with
  | nil => cases h
  | cons c r => have : c = 45 := by simpa using h
                subst this; exact ⟨r, rfl⟩
/-- what str writes is just the text without a nought in front -/
theorem str_back {z : Str} (h1 : (figsOf z).cps.toList ≠ []) (h2 : (figsOf z).cps.toList.all isDig = true) :
    decide (strOf (valOf z) = z) = (decide (z = "0") || !decide ((figsOf z).cps.toList.head? = some 48)) := by
  have hx : ∀ {a : Str}, decide (a = z) = decide (a.cps.toList = z.cps.toList) := fun {a} => by
    by_cases h : a = z
    · subst h; simp
    · rw [decide_eq_false h, decide_eq_false fun q => h (str_ext q)]
  have hz0 : decide (z = "0") = decide (z.cps.toList = [48]) := by
    by_cases h : z = "0"
    · subst h; decide +kernel
    · rw [decide_eq_false h]
      exact (decide_eq_false fun q => h (str_ext q)).symm
  rw [hx, hz0]
  unfold valOf
  by_cases hn : z.cps.toList.head? = some 45
  · rw [if_pos hn]
    obtain ⟨r, hr⟩ := head45 hn
    rw [figs_neg hr] at h1 h2 ⊢
    rw [hr]
    have ha := digits_all h2
    show decide ((strOf (-((digitsVal r : Nat) : Int))).cps.toList = 45 :: r) = (decide ((45 :: r : List Nat) = [48]) || _)
    rw [decide_eq_false (show ¬ (45 :: r : List Nat) = [48] from fun q => by cases q), Bool.false_or]
    by_cases hh : r.head? = some 48
    · rw [decide_eq_true hh]
      refine decide_eq_false fun q => ?_
      by_cases h0 : digitsVal r = 0
      · rw [h0] at q
        have e : (strOf (-((0 : Nat) : Int))).cps.toList = [48] := by decide +kernel
        rw [e] at q; cases q
      · rw [strOf_neg (by omega)] at q
        have q2 : TL.numL (digitsVal r) = r := (List.cons.inj q).2
        rcases numL_head (digitsVal r) with ⟨_, z⟩ | ⟨z, _⟩
        · exact h0 z
        · rw [q2] at z; exact z hh
    · rw [decide_eq_false hh]
      obtain ⟨c1, c2⟩ := canon _ r rfl ha h1 hh
      refine decide_eq_true ?_
      rw [strOf_neg c2, c1]
  · rw [if_neg hn]
    rw [figs_pos hn] at h1 h2 ⊢
    have ha := digits_all h2
    rw [strOf_nat]
    by_cases hh : z.cps.toList.head? = some 48
    · rw [decide_eq_true hh, Bool.not_true, Bool.or_false]
      by_cases hz : z.cps.toList = [48]
      · rw [hz]; decide +kernel
      · rw [decide_eq_false hz]
        refine decide_eq_false fun q => ?_
        rcases numL_head (digitsVal z.cps.toList) with ⟨y, _⟩ | ⟨y, _⟩
        · rw [q] at y; exact hz y
        · rw [q] at y; exact y hh
    · rw [decide_eq_false hh, Bool.not_false, Bool.or_true]
      exact decide_eq_true (canon _ _ rfl ha h1 hh).1
theorem figs_sign {z : Str} (h2 : (figsOf z).cps.toList.all isDig = true) : ∀ c ∈ z.cps.toList, c = 45 ∨ (48 ≤ c ∧ c ≤ 57) := by
  intro c hc
  by_cases hn : z.cps.toList.head? = some 45
  · obtain ⟨r, hr⟩ := head45 hn
    rw [figs_neg hr] at h2
    rw [hr] at hc
    rcases List.mem_cons.mp hc with rfl | hc
    · exact .inl rfl
    · exact .inr (digits_all h2 c hc)
  · rw [figs_pos hn] at h2
    exact .inr (digits_all h2 c hc)
end L3
end
section
namespace L3
open PySem PySem.Spec PyProof.Rows L2 LamX
theorem pen_heap (a c : Addr) (n : Nat) : ∃ h : Heap, (∃ (spot rest : Int) (t u : Tok) (k : Nat), h.get? a = some { cls := .type "list", data := .seq #[.ref c, .int spot t, .int rest u] k } ∧ 0 ≤ spot ∧ spot ≤ n) ∧
    ∀ b o, h.get? b = some o → o.cls = .type "list" ∧ ∀ vs, o.data ≠ .fields vs := by
  let ob : Obj := { cls := .type "list", data := .seq #[.ref c, .int 0 0, .int 0 0] 0 }
  refine ⟨{ objs := Array.replicate (a + 1) ob }, ⟨0, 0, 0, 0, 0, ?_, by decide, by omega⟩, fun b o e => ?_⟩
  · unfold Heap.get?
    have : (Array.replicate (a + 1) ob)[a]? = some ob := by simp
    show (match (Array.replicate (a + 1) ob)[a]? with | some ⟨_, _, .freed, _⟩ => none | o => o) = _
    rw [this]
  · unfold Heap.get? at e
    have q : (Array.replicate (a + 1) ob)[b]? = none ∨ (Array.replicate (a + 1) ob)[b]? = some ob := by
      by_cases h : b < a + 1
      · right; simp [h]
      · left; exact Array.getElem?_eq_none (by rw [Array.size_replicate]; exact Nat.le_of_not_lt h)
    change (match (Array.replicate (a + 1) ob)[b]? with | some ⟨_, _, .freed, _⟩ => none | o => o) = some o at e
    rcases q with q | q
    · rw [q] at e; cases e
    · rw [q] at e; cases e
      exact ⟨rfl, fun vs z => nomatch z⟩
theorem codeO_pen {k a c : Addr} {n : Nat} {q : Str} : CodeO k q ≠ PenO a c n := fun e => by
  unfold CodeO PenO at e
  injection e with e
  obtain ⟨h, h1, h2⟩ := pen_heap a c n
  rw [← congrFun e h] at h1
  obtain ⟨o, vs, _, g1, g2, _⟩ := h1
  exact (h2 _ _ g1).2 vs g2
/-- the pen stands, so do the tables -/
structure Wo (T : List (Addr × Str)) (H : Hp) (a : Addr) (n : Nat) : Prop where
  pen : Pen H a n
  tabs : Tabs T H
/-- an object that is told otherwise than a pen does not lie at the pen's place -/
theorem Pen.ne {H : Hp} {a : Addr} {n : Nat} (p : Pen H a n) {b : Addr} {o : HO} (h : H b = some o) (d : ∀ c n, o ≠ PenO a c n) : b ≠ a := fun z => by
  obtain ⟨c, ns, ha, _⟩ := p
  rw [z, ha] at h
  exact d c n (Option.some.inj h).symm
theorem Wo.keep {T : List (Addr × Str)} {H H' : Hp} {a : Addr} {n m : Nat} (w : Wo T H a n) (p : Pen H' a m) (k : ∀ b o, b ≠ a → H b = some o → H' b = some o) : Wo T H' a m := by
  refine ⟨p, fun t ht => ?_⟩
  obtain ⟨ps, h1, h2, h3⟩ := w.tabs t ht
  refine ⟨ps, k _ _ (w.pen.ne h1 fun c n z => by unfold PenO at z; cases z) h1, h2, fun pos cv hc => ?_⟩
  obtain ⟨c, e1, e2⟩ := h3 pos cv hc
  exact ⟨c, e1, k _ _ (w.pen.ne e2 fun _ _ => codeO_pen) e2⟩
theorem Wo.ex {T : List (Addr × Str)} {H H' : Hp} {a : Addr} {n : Nat} (w : Wo T H a n) (k : Ex H H') : Wo T H' a n := by
  obtain ⟨c, ns, h1, h2, h3⟩ := w.pen
  exact ⟨⟨c, ns, k _ _ h1, k _ _ h2, h3⟩, w.tabs.ext k⟩
theorem Xt.refl (a : Addr) (H : Hp) : Xt a H H := fun _ _ _ _ h => h
theorem Xt.trans {a : Addr} {H H1 H2 : Hp} (x : Xt a H H1) (y : Xt a H1 H2) : Xt a H H2 := fun b o h1 h2 h => y b o h1 h2 (x b o h1 h2 h)
theorem Xt.of {a : Addr} {H H' : Hp} (k : ∀ b o, b ≠ a → H b = some o → H' b = some o) : Xt a H H' := fun b o h _ e => k b o h e
def tPenNew (t : TS) : TS := fun D σ H => t { D with rt := fun v H' => ∃ p c rest ns, v = .ref p ∧ H' p = some (.lst [.ref c, .int 0, .int rest]) ∧ H' c = some (.lst ((ns : List Int).map V.int)) ∧ c ≠ p ∧ D.rt v (upd (upd H' p (PenO p c 0)) c (ScO c ns)) } σ H
theorem pss_penNew {X : Cx} {sts : List Stmt} {t : TS} (h : PSs X sts t) : PSs X sts (tPenNew t) := by
  refine ⟨fun pins s σ H D I hw => thn (h.run pins s σ H _ I hw) fun f s' q => ?_⟩
  match f, q with
  | .next, q => exact q
  | .brk, q => exact q
  | .cont, q => exact q
  | .ret u, q =>
    obtain ⟨v, σ', H', I', r, p, c, rest, ns, e, hp, hc, hn, z⟩ := q
    exact ⟨v, σ', _, Inv.scClose (Inv.penClose I' hp (Int.le_refl 0) (Int.le_refl 0)) (by rw [upd_ne hn]; exact hc), r, z⟩
def spPen (K : PySem.W.Frag) : Sp := fun vs H Q _ => ∃ a ns, vs = [.ref a] ∧ SqL K H a (ns.map V.int) ∧ (ns : List Int).length ≤ 63 ∧ ∀ p H', H p = none → Ex H H' → Pen H' p 0 → Q (.ref p) H'
def spPick : Sp := fun vs H Q _ => ∃ a l n xs, vs = [.ref a, .ref l] ∧ H l = some (.lst xs) ∧ xs ≠ [] ∧ xs.length ≤ 100000 ∧ Pen H a n ∧ n < lim ∧
  ∀ v H', v ∈ xs → Pen H' a (n + 1) → (∀ b o, b ≠ a → H b = some o → H' b = some o) → Q v H'
end L3
end
section
namespace L3
open PySem PySem.Spec PyProof.Rows L2
variable {K : PySem.W.Frag} {σ : L2.St} {H : Hp} {te : TE} {Q : VK}
/-- a comprehension over a range whose turns draw -/
theorem lcPen {a : Addr} {n N q j : Nat} {vs : List Nat} (p : V → Prop) (hp : Pen H a n) (hN : N < sizeLine) (hw : ∀ x, wipe ((wipe σ vs).set j (some x)) vs = wipe σ vs)
    (he : ∀ (i : Nat) (H' : Hp) (m : Nat) (R : VK), i < N → (∀ b o, b ≠ a → H b = some o → H' b = some o) → Pen H' a m → m ≤ n + q * i →
      (∀ y H2 m2, (∀ b o, b ≠ a → H' b = some o → H2 b = some o) → Pen H2 a m2 → m2 ≤ m + q → p y → R y H2) → te ((wipe σ vs).set j (some (.int (0 + i)))) H' R)
    (k : ∀ D H2 m ys, H D = none → (∀ b o, b ≠ a → H b = some o → H2 b = some o) → Pen H2 a m → m ≤ n + q * N → ys.length = N → (∀ y ∈ ys, p y) → H2 D = some (.lst ys) → Q (.ref D) H2) :
    LC (Itr 0 N) (gName j) tYes te vs σ H Q := by
  intro Dl hD
  have hDa : Dl ≠ a := by
    rintro rfl
    obtain ⟨c, ns, z, _⟩ := hp
    rw [hD] at z; cases z
  have pu : ∀ {H : Hp} {m : Nat} {o : HO}, Pen H a m → H Dl = none ∨ (∃ xs, H Dl = some (.lst xs)) → Pen (upd H Dl o) a m := by
    rintro H m o ⟨c, ns, z1, z2, z3⟩ hd
    refine ⟨c, ns, by rw [upd_ne (Ne.symm hDa)]; exact z1, ?_, z3⟩
    rw [upd_ne ?_]; exact z2
    rintro rfl
    rcases hd with hd | ⟨xs, hd⟩ <;> rw [hd] at z2 <;> (try unfold ScO at z2) <;> cases z2
  refine lc_it walk_range (fun i H' => (∃ m, Pen H' a m ∧ m ≤ n + q * i) ∧ (∀ b o, b ≠ a → H b = some o → H' b = some o) ∧ ∃ ys, H' Dl = some (.lst ys) ∧ ys.length = i ∧ ∀ y ∈ ys, p y)
    ⟨⟨n, pu hp (.inl hD), by omega⟩, fun b o _ hb => by rw [upd_ne (ne_of_none hb hD)]; exact hb, [], upd_same, rfl, by simp⟩ (fun _ _ _ _ => trivial) ?_ ?_
  · rintro i x H1 H2 hi ⟨⟨m, p1, p2⟩, k1, ys, l1, l2, l3⟩ ⟨rfl, rfl⟩
    refine ⟨hw _, ?_⟩
    refine he i H2 m _ hi k1 p1 p2 fun y H3 m3 k3 p3 hm hy => ?_
    have l4 := k3 _ _ hDa l1
    refine ⟨ys, l4, by omega, ⟨m3, pu p3 (.inr ⟨_, l4⟩), by rw [Nat.mul_succ]; omega⟩, fun b o hb ho => ?_, ys ++ [y], upd_same, by simp [l2], ?_⟩
    · rw [upd_ne (ne_of_none ho hD)]; exact k3 _ _ hb (k1 _ _ hb ho)
    · intro z hz
      rcases List.mem_append.mp hz with hz | hz
      · exact l3 z hz
      · rw [List.mem_singleton.mp hz]; exact hy
  · rintro H1 ⟨⟨m, p1, p2⟩, k1, ys, l1, l2, l3⟩
    exact k _ _ _ _ hD k1 p1 p2 l2 l3 l1
end L3
end
section
namespace L3
open PySem PySem.Spec PyProof.Rows L2
variable {K : PySem.W.Frag} {σ : L2.St} {H : Hp} {te : TE} {Q : VK}
def flatD : V → PyData
  | .int i => .int i
  | .bl b => .bool b
  | .str z => .str z
  | _ => .none
def fitF : V → Bool
  | .int i => decide (i.natAbs.log2 < 1920)
  | .bl _ => true
  | .non => true
  | _ => false
theorem len_app (a b : Str) : (a ++ b).length = a.length + b.length := by
  rw [← len_codes, ← len_codes, ← len_codes]
  show (a.cps ++ b.cps).toList.length = _
  rw [Array.toList_append, List.length_append]
theorem strOf_len {i : Int} {k : Nat} (hk : 0 < k) (h : i.natAbs < 10 ^ k) : (strOf i).length ≤ k + 1 := by
  by_cases h0 : 0 ≤ i
  · obtain ⟨m, rfl⟩ := Int.eq_ofNat_of_zero_le h0
    have e := strOf_nat m
    have hl := TL.numL_len (n := m) (k := k) hk (by simpa using h)
    rw [← len_codes, e]; omega
  · obtain ⟨m, rfl⟩ : ∃ m : Nat, i = -(m : Int) := ⟨i.natAbs, by omega⟩
    have e := strOf_neg (m := m) (by omega)
    have hl := TL.numL_len (n := m) (k := k) hk (by simpa using h)
    rw [← len_codes, e, List.length_cons]; omega
theorem log_big {n : Nat} (h : n.log2 < 1920) : n < 10 ^ 1000 := by
  by_cases h0 : n = 0
  · rw [h0]; exact Nat.pow_pos (by decide)
  · rw [Nat.log2_lt h0] at h
    refine Nat.lt_of_lt_of_le h ?_
    have e : 2 ^ 1920 = (2 ^ 96) ^ 20 := by rw [← Nat.pow_mul]
    have e' : 10 ^ 1000 = (10 ^ 50) ^ 20 := by rw [← Nat.pow_mul]
    rw [e, e']
    exact Nat.pow_le_pow_left (by decide) 20
theorem fit_shown {x : V} (h : fitF x = true) : (flatD x).shown.length ≤ 1001 := by
  cases x with
  | int i => exact strOf_len (by decide) (log_big (of_decide_eq_true h))
  | bl b => show (if b then Str.ofString "True" else "False").length ≤ _; cases b <;> decide
  | non => show (Str.ofString "None").length ≤ _; decide
  | _ => cases h
end L3
end
section
namespace L3
open PySem PySem.Spec PyProof.Rows L2
/-- what the written part says of the class C, its __init__ at f with the code object cda and the cell cc -/
structure SupF (P : Program) (K : PySem.W.Frag) (mg : Str → Option Value) (C f cda cc : Addr) (scope : Scope) : Prop where
  oex : OexC K C
  cell : ∃ cl cld csl, K.lookup cc = some ⟨cl, cld, .cell (some (.ref C)), csl⟩
  code : ∃ ccl cdd vs ccs file tf, K.lookup cda = some ⟨ccl, cdd, .fields vs, ccs⟩ ∧ vs[2]? = some (.str file tf) ∧ ((P.main.file : Str) == file) = true
  mro : PySem.W.mroIn K C (.ref C) = some true
  noS : mg "super" = none
  top : (P.main.scope.names.lookup ("super" : Str)).isSome = false
  opq : PySem.W.nsIn K cStatics "thirdparty.any" = some none
  sup : PySem.W.ks_superIn K C C "__init__" = some (some (.builtin "ValueError.__init__"))
  sub : PySem.W.subIn K (.ref C) (.type "ValueError") = some true
  sSup : scope.names.lookup ("super" : Str) = some .globalImplicit
  sCls : scope.names.lookup ("__class__" : Str) = some .free
def supF (qual : Str) (params : Arguments) (body : List Stmt) (scope : Scope) (cc cda : Addr) : NdefX.NF := ⟨"__init__", qual, params, body, scope, [("__class__", cc)], cda⟩
theorem okSup {P : Program} {w : World} {K : PySem.W.Frag} {mg : Str → Option Value} {base : Heap} {CX : CXT} {k : Nat} {C f cda cc : Addr} {qual msg : Str} {params : Arguments} {rest : List Stmt} {scope : Scope} {kV doc pm ct oc : Value} {an od : Option Addr} {osl : Array (Option Value)} {N ps : List Str} {sp : Sp}
    {p0 p1 p2 p3 p4 p5 : Pos} {j : Nat} {ar : Arg} {body : List Stmt}
    (hbd : body = .Expr (.Call (.Attribute (.Call (.Name "super" p0) [] [] p1) "__init__" p2) [.Constant (.str msg) j p3] [] p4) p5 :: rest)
    (lk : K.lookup f = some ⟨oc, od, .func (PySem.W.fnX "__init__" qual params body scope [("__class__", cc)] .none kV doc pm an (.ref cda) ct), osl⟩) (hcd : PySem.W.codeIn K (.ref cda) qual = true)
    (T : SupF P K mg C f cda cc scope) (S : NdefX.NScope N ps ["__class__"] scope) (hp : (params.posonlyargs ++ params.args).head? = some ar) (hps : ps.head? = some ar.arg) (hN0 : N[0]? = some ar.arg) (hna : scope.names.lookup ar.arg = some .local)
    (hev : ∀ env : Env, env.scope = scope → ∃ pl, eval (.Call (.Attribute (.Call (.Name "super" p0) [] [] p1) "__init__" p2) [.Constant (.str msg) j p3] [] p4) env = (do
      let ov ← attributeBase (.Call (.Name "super" p0) [] [] p1) "__init__" env (eval (.Call (.Name "super" p0) [] [] p1) env)
      standAt p2.atName
      let (f, first) ← holding [ov] (getMethod ov "__init__" pl)
      callWith p4 f first (backTo p4 (starEach [.Constant (.str msg) j p3] env)) []))
    (len : ∀ vs H Q E, sp vs H Q E → vs.length = ps.length)
    (run : ∀ (A : Around) (outer : List Env) (s : Shared) (H : Hp) (vs : List V) (Q : VK) (E : XK), Room k (A.deeper (NdefX.envF (supF qual params body scope cc cda) f s.heap.objs.size)) → sp vs H Q E →
      ∃ a ws, vs = .ref a :: ws ∧ H a = some (exo a C none) ∧ ∃ t, PSs (NdefX.ncx CX P w K mg base N (supF qual params body scope cc cda) f A outer s H E) rest t ∧ t { nx := fun _ H' => Q .non H', rt := Q } (NdefX.startF N vs [some (.ref C)]) H) :
    FnOk P w K mg base CX (k + 1) f (PySem.W.fnX "__init__" qual params body scope [("__class__", cc)] .none kV doc pm an (.ref cda) ct) ps sp := by
  refine ⟨len, fun A outer s H args us vs Q E hr e0 hb r h => ?_⟩
  have KX : K.In s.heap := e0.mod.kin.keeps fun b o e => (e0.bs b o e).1
  have lim : s.heap.NoLimit := e0.mod.nolimit.keeps fun b o e => (e0.bs b o e).1
  obtain ⟨cl, cld, csl, hcell⟩ := T.cell
  have hl := len _ _ _ _ h
  have cells : NdefX.CellsAt [("__class__", cc)] ["__class__"] [some (.ref C)] s.heap H := by
    have hkb := e0.mod.kin _ _ hcell
    have look : ∀ {y c}, List.lookup y [(("__class__" : Str), cc)] = some c → y = "__class__" ∧ c = cc := fun {y c} e => by
      rw [List.lookup_cons] at e
      by_cases hy : y == ("__class__" : Str)
      · rw [hy] at e; exact ⟨beq_iff_eq.mp hy, (Option.some.inj e).symm⟩
      · rw [Bool.eq_false_iff.mpr hy] at e; cases e
    refine ⟨rfl, fun y c e => ?_, fun x y c e1 e2 => (look e1).1.trans (look e2).1.symm, fun i y hy => ?_⟩
    · rw [(look e).2]
      exact ⟨(e0.bs _ _ hkb).2, _, _, KX _ _ hcell, rfl⟩
    · match i, hy with
      | 0, hy =>
        cases hy
        refine ⟨cc, rfl, fun v hv => ?_⟩
        cases hv
        exact ⟨_, rfl, _, KX _ _ hcell, rfl⟩
  refine PySem.ks_codeAny_call_defAt (fd := PySem.W.fnX "__init__" qual params body scope [("__class__", cc)] .none kV doc pm an (.ref cda) ct) (body := body) hr.depth (KX _ _ lk) rfl lim (PySem.W.codeRec_of KX hcd) rfl hb S.nocell (fun ⟨n, _⟩ hy => S.par n (List.of_mem_zip hy).1) (fun h₁ hns kp => ?_) S.co S.gen S.kind
  obtain ⟨a, ws, hvs, ha, t, ht, hq⟩ := run A outer s H vs Q E (hr.deeper _) h
  have I : Inv (NdefX.ncx CX P w K mg base N (supF qual params body scope cc cda) f A outer s H E) [] (NdefX.startF N vs [some (.ref C)]) H { s with heap := h₁, toks := s.toks + (ps.zip us).length } := NdefX.inv_startN S hr.hd e0 hl r cells hns kp
  subst hbd
  subst hvs
  obtain ⟨nm, q, Nn, bs, bm, sn, sub, ab, col, dd, k0, k1, k2, k3, k5, hC, hbm⟩ := T.oex.cls
  obtain ⟨ccl, cdd, vs2, ccs, file, tf, hcode, hv2, hfile⟩ := T.code
  obtain ⟨t1, hox⟩ := exo_at I.hok ha
  have K1 : K.In h₁ := I.kIn
  obtain ⟨u0, us', rfl, r0, r'⟩ : ∃ u0 us', us = u0 :: us' ∧ RelV (.ref a) u0 ∧ Vals ws us' := by
    cases r with
    | cons r0 r' => exact ⟨_, _, rfl, r0, r'⟩
  obtain rfl : u0 = Value.ref a := r0
  have hps0 : ps[0]? = some ar.arg := by rw [← List.head?_eq_getElem?]; exact hps
  have hv : (ps.zip (Value.ref a :: us')).reverse.lookup ar.arg = some (.ref a) := NdefX.zip_look (i := 0) (by
      have e := S.pre
      have nd := S.nd.sublist (List.take_sublist (ps.length + 1) N)
      rw [show (["__class__"] : List Str).length = 1 from rfl] at e
      rw [e] at nd
      exact (List.nodup_append.mp nd).1) hps0 rfl
  obtain ⟨pl, he⟩ := hev (NdefX.envF (supF qual params [] scope cc cda) f s.heap.objs.size) rfl
  refine PySem.ks_wpAt_execs_cons (PySem.ks_wpAt_Expr_any (PySem.ks_wpAt_MethodCall (pl := pl) ?_ he) (hi := I.quiet))
  refine PySem.ks_wpAt_super_base (f := f) (cc := cda) T.sSup T.sCls (by decide) rfl (K1 _ _ lk) rfl hp rfl (K1 _ _ hcode) rfl hv2 hfile T.top ?_
  have hD : h₁.get? C = some _ := K1 _ _ hC
  obtain ⟨mb, b1, b2⟩ := I.mod.blt
  refine PySem.W.ks_loadName_global S.kind T.sSup (Calls.loadGlobal_builtin (I.mod.glob.keeps I.bk) T.noS (b1.keeps I.bk) ((b2 _ (by decide)).trans (by rfl)) ⟨rfl, ?_⟩)
  refine wpAny_loadName_free S.kind T.sCls rfl ⟨_, K1 _ _ hcell, rfl⟩ ?_
  refine wpAny_loadName_local S.kind hna hns hv ?_
  refine PySem.ks_wpAny_isType_cls hD rfl ⟨rfl, ?_⟩
  refine PySem.ks_wpAny_call_super hD rfl hox rfl (fun c e => nomatch e) (PySem.W.looks_mroIn K1 T.mro) (fun h2 e2 kp2 => ?_)
  have I2 := I.kept (t' := s.toks + (ps.zip (Value.ref a :: us')).length) kp2
  have K2 : K.In h2 := I2.kIn
  have hcl : PySem.W.clsIn K C = some { name := nm, bases := bs, mro := .ref C :: bm, ns := Nn, qualname := q, hasDict := true, slotNames := sn, subclasses := sub, abstract := ab, collection := col, hasDel := false } := by unfold PySem.W.clsIn; rw [hC] <;> rfl
  have hsup := T.sup
  unfold PySem.W.ks_superIn at hsup
  rw [hcl] at hsup
  obtain ⟨t2, ho2⟩ := exo_at I2.hok ha
  have IA : PySem.W.InstAt h2 a _ C none := ⟨ho2, rfl, rfl, trivial⟩
  refine PySem.W.kxs_getMethod PySem.W.kxs_ValueError e2 (PySem.W.looks_opaque K2 T.opq) (l₀ := .ref C :: bm) (fun A Q E s k q => wpAny_bind ((PySem.W.looks_clsIn K2 hcl) A _ E s k (wpAny_pure q))) rfl K2 hsup (IA.type.andThen (PySem.W.looks_subIn K2 T.sub)) (PySem.W.ks_ne K2 IA hcl) (by decide) ?_
  have kp3 : ∀ b o, h2.get? b = some o → (h2.push (PySem.W.kxs_mw "ValueError.__init__" a)).get? b = some o := fun b o e => Heap.get?_push_of_some _ e
  have I3 := I2.kept (t' := s.toks + (ps.zip (Value.ref a :: us')).length + 1) kp3
  have hu : (h2.push (PySem.W.kxs_mw "ValueError.__init__" a)).get? h2.objs.size = some (PySem.W.kxs_mw "ValueError.__init__" a) := Heap.get?_push_at rfl rfl
  generalize h2.push (PySem.W.kxs_mw "ValueError.__init__" a) = h3 at I3 hu ⊢
  generalize h2.objs.size = u at hu ⊢
  refine PySem.W.kxs_callWith (i := "ValueError.__init__") (x := a) rfl (Calls.evalArgs_plain (Calls.spliced_cons (Calls.Constant_str (k := j) (pos := p3) (Calls.spliced_nil ⟨hu, ?_⟩))))
  have I4 := I3.tok (s.toks + (ps.zip (Value.ref a :: us')).length + 1 + 1)
  have K4 : K.In h3 := I4.kIn
  obtain ⟨t4, ho4⟩ := exo_at I4.hok ha
  refine wpAny_call (codeAny_of_tree ?_)
  show wpAny _ _ (callAny (.ref u) ⟨_, []⟩) _ _ _
  simp only [callAny]
  refine wpAny_bind (wpAny_load hu ?_)
  simp only [PySem.W.kxs_mw, show (Value.type "method-wrapper" == Value.type "method" || Value.type "method-wrapper" == Value.type "builtin_function_or_method" || Value.type "method-wrapper" == Value.type "method-wrapper") = true by decide, if_true]
  refine PySem.W.KFB.if_so (by decide) ?_
  refine wpAny_bind (PySem.W.check_bound_init F.excBase_ValueError.toExcCallFacts (K4 _ _ hC) ho4 rfl ?_)
  refine wpAny_bind (wpAny_pure (wpAny_pure ?_))
  refine ⟨plainId_quiet F.excBase_ValueError.init.plain _, codeAny_builtin F.excBase_ValueError.initEntry ?_⟩
  refine PySem.W.exc_init_tree (cls := .ref C) (t0 := t4) (dv := none) (c2 := .none) (c3 := .none) (b4 := .bool false) ho4 (by show 1 ≤ sizeLine; rw [sizeLine_eq]; decide) (fun h5 kp5 hx5 _ => ?_)
  have J := I4.write (t' := s.toks + (ps.zip (Value.ref a :: us')).length + 1 + 1) (x := a) (e := a) (o := exo a C none) (by rw [ha]; exact True.intro) (.inl rfl) kp5 ⟨_, hx5⟩ (exo_ok hx5)
  have eu : upd H a (exo a C none) = H := by
    funext b
    by_cases hb : b = a
    · rw [hb, upd_same, ha]
    · rw [upd_ne hb]
  rw [eu] at J
  refine PySem.wpAt_of_wpAny (wpAny_mono (ht.run [] _ _ H _ J hq) (fun fl s' hs => ?_) fun e s' hs => hs)
  cases fl with
  | ret u =>
    obtain ⟨v, σ', H', J', rv, q⟩ := hs
    exact ⟨v, H', J'.os, J'.bare, J'.base, J'.hok, rv, q⟩
  | next =>
    obtain ⟨σ', H', J', q⟩ := hs
    exact ⟨.non, H', J'.os, J'.bare, J'.base, J'.hok, rfl, q⟩
  | brk =>
    obtain ⟨_, _, _, q⟩ := hs
    exact False.elim q
  | cont =>
    obtain ⟨_, _, _, q⟩ := hs
    exact False.elim q
end L3
namespace L3
open PySem PySem.Spec PyProof.Rows L2
/-- one field, two fields, none -/
def spErr1 (C : Addr) (f : Str) : Sp := fun vs H Q _ => ∃ a v, vs = [.ref a, v] ∧ H a = some (exo a C none) ∧ ∀ dx, H dx = none → dx ≠ a → Q .non (upd (upd H dx (exd dx [(f, v)])) a (exo a C (some dx)))
def spErr2 (C : Addr) (f g : Str) : Sp := fun vs H Q _ => ∃ a v y, vs = [.ref a, v, y] ∧ H a = some (exo a C none) ∧ ∀ dx, H dx = none → dx ≠ a → Q .non (upd (upd (upd H dx (exd dx [(f, v)])) a (exo a C (some dx))) dx (exd dx [(g, y), (f, v)]))
abbrev stSup (msg : Str) (j : Nat) (p0 p1 p2 p3 p4 p5 : Pos) : Stmt := .Expr (.Call (.Attribute (.Call (.Name "super" p0) [] [] p1) "__init__" p2) [.Constant (.str msg) j p3] [] p4) p5
abbrev stFld (f x : Str) (q1 q2 q3 q4 : Pos) : Stmt := .Assign [.Attribute (.Name "self" q1) f q2] (.Name x q3) q4
section
variable {P : Program} {w : World} {K : PySem.W.Frag} {mg : Str → Option Value} {base : Heap} {CX : CXT} {C f cda cc : Addr} {qual msg x y g1 g2 : Str} {params : Arguments} {scope : Scope} {kV doc pm ct oc : Value} {an od : Option Addr} {osl : Array (Option Value)}
  {p0 p1 p2 p3 p4 p5 q1 q2 q3 q4 q5 q6 q7 q8 : Pos} {j : Nat} {ar : Arg} {body : List Stmt}
theorem okErr1 (hbd : body = [stSup msg j p0 p1 p2 p3 p4 p5, stFld g1 x q1 q2 q3 q4])
    (lk : K.lookup f = some ⟨oc, od, .func (PySem.W.fnX "__init__" qual params body scope [("__class__", cc)] .none kV doc pm an (.ref cda) ct), osl⟩) (hcd : PySem.W.codeIn K (.ref cda) qual = true)
    (T : SupF P K mg C f cda cc scope) (S : NdefX.NScope ["self", x, "__class__"] ["self", x] ["__class__"] scope) (hp : (params.posonlyargs ++ params.args).head? = some ar) (har : ar.arg = "self")
    (hev : ∀ env : Env, env.scope = scope → ∃ pl, eval (.Call (.Attribute (.Call (.Name "super" p0) [] [] p1) "__init__" p2) [.Constant (.str msg) j p3] [] p4) env = (do
      let ov ← attributeBase (.Call (.Name "super" p0) [] [] p1) "__init__" env (eval (.Call (.Name "super" p0) [] [] p1) env)
      standAt p2.atName
      let (f, first) ← holding [ov] (getMethod ov "__init__" pl)
      callWith p4 f first (backTo p4 (starEach [.Constant (.str msg) j p3] env)) []))
    (hx : (x == ("__debug__" : Str)) = false) (hx2 : (x == ("__classdict__" : Str)) = false) (n1 : PySem.W.findIn K (.ref C) g1 = some none) (hs : ∀ env : Env, env.scope = scope → swapsWith (.Name x q3) (some (.Attribute (.Name "self" q1) g1 q2)) q4.line env = pure false) :
    FnOk P w K mg base CX 1 f (PySem.W.fnX "__init__" qual params body scope [("__class__", cc)] .none kV doc pm an (.ref cda) ct) ["self", x] (spErr1 C g1) := by
  refine okSup hbd lk hcd T S hp (by rw [har]; rfl) (by rw [har]; rfl) (by rw [har]; exact S.par _ (by simp)) hev (fun vs H Q E h => ?_) (fun A outer s H vs Q E hr h => ?_)
  · obtain ⟨a, v, rfl, _⟩ := h; rfl
  · obtain ⟨a, v, rfl, ha, k⟩ := h
    refine ⟨a, _, rfl, ha, _, pss_one (ps_ost (pe_var (i := 0) rfl (.inl (S.par _ (by simp)))) (pe_var (i := 1) rfl (.inl (S.par _ (by simp))) hx hx2) (hs _ rfl)), ?_⟩
    refine ⟨v, rfl, .ref a, rfl, a, C, rfl, T.oex, n1, .inl ⟨ha, fun dx h1 h2 => ?_⟩⟩
    exact k dx h1 h2
theorem okErr2 (hbd : body = [stSup msg j p0 p1 p2 p3 p4 p5, stFld g1 x q1 q2 q3 q4, stFld g2 y q5 q6 q7 q8])
    (lk : K.lookup f = some ⟨oc, od, .func (PySem.W.fnX "__init__" qual params body scope [("__class__", cc)] .none kV doc pm an (.ref cda) ct), osl⟩) (hcd : PySem.W.codeIn K (.ref cda) qual = true)
    (T : SupF P K mg C f cda cc scope) (S : NdefX.NScope ["self", x, y, "__class__"] ["self", x, y] ["__class__"] scope) (hp : (params.posonlyargs ++ params.args).head? = some ar) (har : ar.arg = "self")
    (hev : ∀ env : Env, env.scope = scope → ∃ pl, eval (.Call (.Attribute (.Call (.Name "super" p0) [] [] p1) "__init__" p2) [.Constant (.str msg) j p3] [] p4) env = (do
      let ov ← attributeBase (.Call (.Name "super" p0) [] [] p1) "__init__" env (eval (.Call (.Name "super" p0) [] [] p1) env)
      standAt p2.atName
      let (f, first) ← holding [ov] (getMethod ov "__init__" pl)
      callWith p4 f first (backTo p4 (starEach [.Constant (.str msg) j p3] env)) []))
    (hx : (x == ("__debug__" : Str)) = false) (hx2 : (x == ("__classdict__" : Str)) = false) (hy : (y == ("__debug__" : Str)) = false) (hy2 : (y == ("__classdict__" : Str)) = false)
    (n1 : PySem.W.findIn K (.ref C) g1 = some none) (n2 : PySem.W.findIn K (.ref C) g2 = some none)
    (hs : ∀ env : Env, env.scope = scope → swapsWith (.Name x q3) (some (.Attribute (.Name "self" q1) g1 q2)) q4.line env = pure false) (hs2 : ∀ env : Env, env.scope = scope → swapsWith (.Name y q7) (some (.Attribute (.Name "self" q5) g2 q6)) q8.line env = pure false) :
    FnOk P w K mg base CX 1 f (PySem.W.fnX "__init__" qual params body scope [("__class__", cc)] .none kV doc pm an (.ref cda) ct) ["self", x, y] (spErr2 C g1 g2) := by
  refine okSup hbd lk hcd T S hp (by rw [har]; rfl) (by rw [har]; rfl) (by rw [har]; exact S.par _ (by simp)) hev (fun vs H Q E h => ?_) (fun A outer s H vs Q E hr h => ?_)
  · obtain ⟨a, v, y, rfl, _⟩ := h; rfl
  · obtain ⟨a, v, y', rfl, ha, k⟩ := h
    refine ⟨a, _, rfl, ha, _, pss_cons (ps_ost (pe_var (i := 0) rfl (.inl (S.par _ (by simp)))) (pe_var (i := 1) rfl (.inl (S.par _ (by simp))) hx hx2) (hs _ rfl))
      (pss_one (ps_ost (pe_var (i := 0) rfl (.inl (S.par _ (by simp)))) (pe_var (i := 2) rfl (.inl (S.par _ (by simp))) hy hy2) (hs2 _ rfl))), ?_⟩
    refine ⟨v, rfl, .ref a, rfl, a, C, rfl, T.oex, n1, .inl ⟨ha, fun dx h1 h2 => ?_⟩⟩
    refine ⟨y', rfl, .ref a, rfl, a, C, rfl, T.oex, n2, .inr ⟨dx, [(g1, v)], upd_same, ?_, (show 1 ≤ 900 by decide), ?_⟩⟩
    · rw [upd_ne h2]; exact upd_same
    · exact k dx h1 h2
end
end L3
end
section
namespace L3
open PySem PySem.Spec PyProof.Rows L2
/-- at a: an error of the class cls, its dict at d -/
def ExV (a : Addr) (cls : Value) (d : Option Addr) : HO := .ext fun h => ∃ oe, h.get? a = some oe ∧ Zc cls d oe ∧ ∃ vs, oe.data = .fields vs
end L3
namespace L3
open PySem PySem.Spec PySem.Calls PyProof.Rows PySem.W
end L3
namespace L3
open PySem PySem.Spec PyProof.Rows L2
/-- a field of a kept error -/
def tXfV (K : PySem.W.Frag) (n : Str) (te : TE) : TE := fun σ H Q => te σ H fun x H1 => ∃ (a C d : Addr) (fs : List (Str × V)) (v : V), x = .ref a ∧ H1 a = some (ExV a (.ref C) (some d)) ∧ H1 d = some (.xd fs) ∧ XfC K C ∧ PySem.W.findIn K (.ref C) n = some none ∧ fs.lookup n = some v ∧ Q v H1
end L3
end
section
namespace L3
open PySem PySem.Spec PySem.Calls PyProof.Rows PySem.W
section
variable {prog : Program} {w : World} {A : Around} {E : Value → Shared → Prop} {s : Shared} {K : Frag} {x y C f g : Addr} {ox oy : Obj} {od oe : Option Obj} {op : Operator} {T : String}
/-- both of one own class -/
theorem bin_same {Q : Value → Shared → Prop} (X : K.In s.heap) (I : InstAt s.heap x ox C od) (J : InstAt s.heap y oy C oe) (hc : selfFirst K C = true) (hs : findIn K (.ref C) (PySem.dunder op.info.2) = some (some (.ref f))) (hf : isFn K (.ref f) = true)
    (h : wpAny (model prog w) A (call (.ref f) [.ref x, .ref y]) (PySem.W.CmpBack Q) E s) : wpAny (model prog w) A (binaryOp1 op.info.2 (.ref x) (.ref y)) (fun r s' => ∃ v, r = some v ∧ Q v s') E s := by
  obtain ⟨cd, rest, hcd, hm⟩ := ksp_first hc
  rcases hi : op.info with ⟨sym, nm'⟩
  rw [hi] at hs
  dsimp only at hs
  have one := ksp_try X I hs hf h
  obtain ⟨hh, g, d, tt, os⟩ := s
  have L1 : Looks (model prog w) hh (typeOf (.ref x)) (.ref C) := I.type
  have L2 : Looks (model prog w) hh (typeOf (.ref y)) (.ref C) := J.type
  have L3 : Looks (model prog w) hh (fillsNumberSlot (.ref C) nm') true := fills_K X hcd hm hs
  have he : (Value.ref C == Value.ref C) = true := beq_self_eq_true _
  dsimp only
  unfold binaryOp1
  refine wpAny_bind (L1.at (wpAny_bind (L2.at (wpAny_bind (L3.at ?_)))))
  simp only [he, if_true]
  ksp_lk
  refine wpAny_mono one (fun r s' hr' => ?_) fun _ _ e => e
  obtain ⟨v, rfl, hq⟩ := hr'
  ksp_lk
  exact ⟨_, rfl, hq⟩
/-- an own one and one of a built-in type -/
theorem bin_own {b : Value} {fo ro rc : Option Value} {Q : Value → Shared → Prop} (X : K.In s.heap) (I : InstAt s.heap x ox C od) (Lb : Looks (model prog w) s.heap (typeOf b) (.type T)) (hc : selfFirst K C = true)
    (hs : findIn K (.ref C) (PySem.dunder op.info.2) = some (some (.ref f))) (hf : isFn K (.ref f) = true) (hr : findIn K (.ref C) (dunderR op.info.2) = some rc) (hp : rc = none ∨ ∃ g : Addr, rc = some (.ref g))
    (h1 : findIn K (.type T) (PySem.dunder op.info.2) = some fo) (h2 : findIn K (.type T) (dunderR op.info.2) = some ro) (hsub : subIn K (.type T) (.ref C) = some false)
    (h : wpAny (model prog w) A (call (.ref f) [.ref x, b]) (PySem.W.CmpBack Q) E s) : wpAny (model prog w) A (binaryOp1 op.info.2 (.ref x) b) (fun r s' => ∃ v, r = some v ∧ Q v s') E s := by
  obtain ⟨cd, rest, hcd, hm⟩ := ksp_first hc
  rcases hi : op.info with ⟨sym, nm'⟩
  rw [hi] at hs hr h1 h2
  dsimp only at hs hr h1 h2
  have one := ksp_try X I hs hf h
  obtain ⟨hh, g, d, tt, os⟩ := s
  have L1 : Looks (model prog w) hh (typeOf (.ref x)) (.ref C) := I.type
  have L2 := Lb
  have L3 : Looks (model prog w) hh (fillsNumberSlot (.ref C) nm') true := fills_K X hcd hm hs
  have L4 : Looks (model prog w) hh (fillsNumberSlot (.type T) nm') ((fo.isSome && !isSeqSlot fo) || (ro.isSome && !isSeqSlot ro)) := ksp_fillsT X h1 h2
  have L5 : Looks (model prog w) hh (isSubtype (.type T) (.ref C)) false := looks_subIn X hsub
  have L6 : Looks (model prog w) hh (numberSlotInPython (.ref C) nm') true := ksp_inPy X hs hr hp
  have L7 : Looks (model prog w) hh (numberSlotInPython (.type T) nm') false := Looks.of_pure rfl
  have L8 : Looks (model prog w) hh (typeLookup (.type T) (dunderR nm')) ro := looks_findIn X h2
  generalize ((fo.isSome && !isSeqSlot fo) || (ro.isSome && !isSeqSlot ro)) = right at L4
  have hne : (Value.ref C == Value.type T) = false := Bool.eq_false_iff.mpr fun q => by cases beq_iff_eq.mp q
  dsimp only
  unfold binaryOp1
  refine wpAny_bind (L1.at (wpAny_bind (L2.at (wpAny_bind (L3.at ?_)))))
  simp only [hne, Bool.false_eq_true, if_false]
  cases right with
  | false =>
    ksp_lk
    refine wpAny_mono one (fun r s' hr' => ?_) fun _ _ e => e
    obtain ⟨v, rfl, hq⟩ := hr'
    ksp_lk
    exact ⟨_, rfl, hq⟩
  | true =>
    ksp_lk
    refine wpAny_mono one (fun r s' hr' => ?_) fun _ _ e => e
    obtain ⟨v, rfl, hq⟩ := hr'
    ksp_lk
    exact ⟨_, rfl, hq⟩
end
end L3
namespace L3
open PySem PySem.Spec PySem.Calls PyProof.Rows PySem.W
section
variable {M : Model} {A : Around} {E : Value → Shared → Prop} {s : Shared} {x : Addr} {ox : Obj} {i : Int} {b : Bool} {t : Tok} {P : Fin → Shared → Prop}
theorem dI_add (e : s.heap.get? x = some ox) (hd : ox.data = .plain) (h : P (.done (.ret .notImplemented)) s) : wpAny M A (Builtin.«int.__add__» ⟨[.int i t, .ref x], []⟩) P E s := by
  obtain ⟨hp, g, d, tk, os⟩ := s
  wp_walk
  try (rw [hd]; wp_walk)
  try (rw [hd]; wp_walk)
  exact h
theorem dB_add (e : s.heap.get? x = some ox) (hd : ox.data = .plain) (h : P (.done (.ret .notImplemented)) s) : wpAny M A (Builtin.«int.__add__» ⟨[.bool b, .ref x], []⟩) P E s := by
  obtain ⟨hp, g, d, tk, os⟩ := s
  wp_walk
  try (rw [hd]; wp_walk)
  try (rw [hd]; wp_walk)
  exact h
end
section
variable {prog : Program} {w : World} {A : Around} {E : Value → Shared → Prop} {s : Shared} {K : Frag} {x y C f g : Addr} {ox oy : Obj} {od oe : Option Obj} {op : Operator} {T : String}
/-- a number, then an own object -/
theorem bin_reflN {a : Value} {Q : Value → Shared → Prop} (X : K.In s.heap) (I : InstAt s.heap x ox C od) (La : Looks (model prog w) s.heap (typeOf a) (.type T)) (hc : selfFirst K C = true)
    (hs : findIn K (.ref C) (PySem.dunder op.info.2) = some (some (.ref g))) (hr : findIn K (.ref C) (dunderR op.info.2) = some (some (.ref f))) (hf : isFn K (.ref f) = true)
    (hfl : fillsNumberSlot (.type T) op.info.2 = pure true) (hsub : subIn K (.ref C) (.type T) = some false)
    (hdec : ∀ (Q : Option Value → Shared → Prop), Q none s → wpAny (model prog w) A (tryMethod a (PySem.dunder op.info.2) (.ref x)) Q E s)
    (h : wpAny (model prog w) A (call (.ref f) [.ref x, a]) (PySem.W.CmpBack Q) E s) : wpAny (model prog w) A (binaryOp1 op.info.2 a (.ref x)) (fun r s' => ∃ v, r = some v ∧ Q v s') E s := by
  obtain ⟨cd, rest, hcd, hm⟩ := ksp_first hc
  rcases hi : op.info with ⟨sym, nm'⟩
  rw [hi] at hs hr hfl hdec
  dsimp only at hs hr hfl hdec
  have one := ksp_try X I hr hf h
  obtain ⟨hh, g, d, tt, os⟩ := s
  have L1 : Looks (model prog w) hh (typeOf (.ref x)) (.ref C) := I.type
  have L2 := La
  have L3 : Looks (model prog w) hh (fillsNumberSlot (.ref C) nm') true := fills_K X hcd hm hs
  have L4 : Looks (model prog w) hh (fillsNumberSlot (.type T) nm') true := Looks.of_pure hfl
  have L5 : Looks (model prog w) hh (isSubtype (.ref C) (.type T)) false := looks_subIn X hsub
  have L7 : Looks (model prog w) hh (numberSlotInPython (.type T) nm') false := Looks.of_pure rfl
  have hne : (Value.type T == Value.ref C) = false := Bool.eq_false_iff.mpr fun q => by cases beq_iff_eq.mp q
  dsimp only
  unfold binaryOp1
  refine wpAny_bind (L2.at (wpAny_bind (L1.at (wpAny_bind (L4.at ?_)))))
  simp only [hne, Bool.false_eq_true, if_false]
  ksp_lk
  refine hdec _ ?_
  ksp_lk
  refine wpAny_mono one (fun r s' hr' => ?_) fun _ _ e => e
  obtain ⟨v, rfl, hq⟩ := hr'
  ksp_lk
  exact ⟨_, rfl, hq⟩
theorem bin_of1 {a b : Value} {Q : Value → Shared → Prop} (h : wpAny (model prog w) A (binaryOp1 op.info.2 a b) (fun r s' => ∃ v, r = some v ∧ Q v s') E s) : wpAny (model prog w) A (binaryOp op a b) Q E s := by
  rcases hi : op.info with ⟨sym, nm'⟩
  rw [hi] at h
  simp only [binaryOp, hi]
  refine wpAny_holding (wpAny_bind (wpAny_mono h (fun r s' hr' => ?_) fun _ _ e => e))
  obtain ⟨v, rfl, hq⟩ := hr'
  exact wpAny_pure hq
end
end L3
end
section
namespace L3
open PySem PySem.Spec PyProof.Rows L2
section
variable {X : Cx} {CX : CXT} {k : Nat} {C f g : Addr} {fd fd' : FuncData} {ps : List Str} {sp : Sp} {E : XK} {op : Operator}
theorem rel_back {Q : Value → Shared → Prop} {v : V} {u : Value} {s : Shared} (r : RelV v u) (h : Q u s) : PySem.W.CmpBack Q u s := by
  cases u <;> first | exact h | skip
  all_goals (cases v <;> first | (exact False.elim r) | (obtain ⟨_, z⟩ := r; cases z; done) | (obtain ⟨z, _⟩ := r; cases z; done) | (cases r; done))
theorem ins_inst {P : Program} {w : World} {H : Hp} {h : Heap} {a C dx : Addr} {fs : List (Str × V)} (hok : HOk P w H h) (e : H a = some (.ins C dx fs)) : ∃ od, PySem.W.InstAt h a (PySem.W.instObj C dx) C (some od) := by
  obtain ⟨h1, _, h3, h4, mA, hns, _⟩ := (show ObjOk P w H h a (.ins C dx fs) from hok a _ e)
  obtain ⟨od, ho, _⟩ := lookIn_ns hns
  exact ⟨od, h4, rfl, rfl, ho⟩
/-- what the class says of its operator -/
structure OwnOp (K : PySem.W.Frag) (C f : Addr) (op : Operator) : Prop where
  self : PySem.W.selfFirst K C = true
  meth : PySem.W.findIn K (.ref C) (PySem.dunder op.info.2) = some (some (.ref f))
  fn : PySem.W.isFn K (.ref f) = true
  /-- the other way round: none or an own def -/
  refl : ∃ rc, PySem.W.findIn K (.ref C) (dunderR op.info.2) = some rc ∧ (rc = none ∨ ∃ g : Addr, rc = some (.ref g))
/-- the other operand: one of the same class, or one of a built-in type -/
def Other (K : PySem.W.Frag) (C : Addr) (op : Operator) (y : V) (H : Hp) : Prop := (∃ b dx fs, y = .ref b ∧ H b = some (.ins C dx fs)) ∨
  ∃ (T : String) (fo ro : Option Value), TyX K H y (.type T) ∧ PySem.W.findIn K (.type T) (PySem.dunder op.info.2) = some fo ∧ PySem.W.findIn K (.type T) (dunderR op.info.2) = some ro ∧ PySem.W.subIn K (.type T) (.ref C) = some false
/-- an operator of two values, its number part -/
def OpR1 (X : Cx) (op : Operator) (r : R2) : Prop := ∀ (pins : List (Addr × Obj)) (s : Shared) (σ : L2.St) (H : Hp) (x y : V) (v u : Value) (Q : VK), Inv X pins σ H s → RelV x v → RelV y u → r x y H Q →
  wpAny (model X.prog X.w) X.A (binaryOp1 op.info.2 v u) (fun r s' => ∃ z, r = some z ∧ EP X pins σ Q z s') X.xe s
theorem OpR1.bin {r : R2} (h : OpR1 X op r) : OpR X (binaryOp op) r := fun pins s σ H x y v u Q I rx ry q => bin_of1 (h pins s σ H x y v u Q I rx ry q)
theorem OpR1.or {r r' : R2} (h : OpR1 X op r) (h' : OpR1 X op r') : OpR1 X op (fun x y H Q => r x y H Q ∨ r' x y H Q) := fun pins s σ H x y v u Q I rx ry q => q.elim (h pins s σ H x y v u Q I rx ry) (h' pins s σ H x y v u Q I rx ry)
theorem op_own (T : OwnOp X.K C f op) (F : FnOk X.prog X.w X.K X.mg X.base CX k f fd ps sp) (hr : Room k X.A) (hb : Binds X.K fd ps []) (hx : Passes CX X E) :
    OpR1 X op (fun x y H Q => ∃ a dx fs, x = .ref a ∧ H a = some (.ins C dx fs) ∧ Other X.K C op y H ∧ sp [x, y] H Q E) := by
  intro pins s σ H x y v u Q I rx ry h
  obtain ⟨a, dx, fs, rfl, ea, ho, q⟩ := h
  obtain rfl : v = Value.ref a := rx
  obtain ⟨od, J⟩ := ins_inst I.hok ea
  have run : wpAny (model X.prog X.w) X.A (call (.ref f) [.ref a, u]) (PySem.W.CmpBack (EP X pins σ Q)) X.xe s :=
    wpAny_mono (run_fn F hr hb .nil hx I (vs := [.ref a, y]) (.cons (show RelV (.ref a) (.ref a) from rfl) (.cons ry .nil)) (by rw [List.append_nil]; exact q)) (fun w' s' ⟨v', H', I', r', z⟩ => rel_back r' ⟨v', H', I', r', z⟩) fun _ _ z => z
  rcases ho with ⟨b, dx', fs', rfl, eb⟩ | ⟨Ty, fo, ro, ty, h1, h2, h3⟩
  · obtain rfl : u = Value.ref b := ry
    obtain ⟨od', J'⟩ := ins_inst I.hok eb
    exact bin_same I.kIn J J' T.self T.meth T.fn run
  · obtain ⟨rc, hrc, hp⟩ := T.refl
    obtain ⟨P', kx, hP, _⟩ := kit_of I ry ty
    exact bin_own I.kIn J (kx.ty _ _ I.kIn hP) T.self T.meth T.fn hrc hp h1 h2 h3 run
end
end L3
namespace L3
open PySem PySem.Spec PySem.Calls PyProof.Rows PySem.W
section
variable {prog : Program} {w : World} {A : Around} {E : Value → Shared → Prop} {s : Shared} {x : Addr} {ox : Obj} {T id : String} {name : Str} {B : Builtin} {u : Value}
theorem try_decl (slot : Slot T name id) (hT : s.TypeIs u T) (entry : entryFor table id = some B) (args : argsOk id ⟨[u, .ref x], []⟩)
    (hB : ∀ {M : Model} {A : Around} {E : Value → Shared → Prop} {P : Fin → Shared → Prop}, P (.done (.ret .notImplemented)) s → wpAny M A (B ⟨[u, .ref x], []⟩) P E s) (Q : Option Value → Shared → Prop) (h : Q none s) :
    wpAny (model prog w) A (tryMethod u name (.ref x)) Q E s := by
  unfold tryMethod
  refine wpAny_bind (wpAny_callSpecial?_slot hT slot ?_)
  refine wpAny_call (codeAny_call_builtin slot.plain entry (slot.check _ _ _ _ _ _ _ _ hT args (hB ?_)))
  exact wpAny_pure h
end
end L3
namespace L3
open PySem PySem.Spec PyProof.Rows L2
section
variable {X : Cx} {CX : CXT} {k : Nat} {C f g : Addr} {fd : FuncData} {ps : List Str} {sp : Sp} {E : XK} {op : Operator}
/-- a number, then an own object -/
theorem op_reflI {T : String} {n : V → Prop} (hn : ∀ v u, n v → RelV v u → ∀ (s : Shared) (M : Model), PySem.W.Looks M s.heap (typeOf u) (.type T)) (self : PySem.W.selfFirst X.K C = true) (hs : PySem.W.findIn X.K (.ref C) (PySem.dunder op.info.2) = some (some (.ref g)))
    (hf : PySem.W.findIn X.K (.ref C) (dunderR op.info.2) = some (some (.ref f))) (fn : PySem.W.isFn X.K (.ref f) = true) (hfl : fillsNumberSlot (.type T) op.info.2 = pure true) (hsub : PySem.W.subIn X.K (.ref C) (.type T) = some false)
    (dec : ∀ (v : V) (u : Value) (s : Shared) (a : Addr) (ox : Obj) (Q : Option Value → Shared → Prop), n v → RelV v u → s.heap.get? a = some ox → ox.data = .plain → Q none s → wpAny (model X.prog X.w) X.A (tryMethod u (PySem.dunder op.info.2) (.ref a)) Q X.xe s)
    (F : FnOk X.prog X.w X.K X.mg X.base CX k f fd ps sp) (hr : Room k X.A) (hb : Binds X.K fd ps []) (hx : Passes CX X E) :
    OpR1 X op (fun x y H Q => ∃ a dx fs, y = .ref a ∧ H a = some (.ins C dx fs) ∧ n x ∧ sp [y, x] H Q E) := by
  intro pins s σ H x y v u Q I rx ry h
  obtain ⟨a, dx, fs, rfl, ea, nx, q⟩ := h
  obtain rfl : u = Value.ref a := ry
  obtain ⟨od, J⟩ := ins_inst I.hok ea
  refine bin_reflN I.kIn J (hn _ _ nx rx s _) self hs hf fn hfl hsub (fun Q h => dec x v s a _ Q nx rx J.at_ rfl h) ?_
  exact wpAny_mono (run_fn F hr hb .nil hx I (vs := [.ref a, x]) (.cons (show RelV (.ref a) (.ref a) from rfl) (.cons rx .nil)) (by rw [List.append_nil]; exact q)) (fun w' s' ⟨v', H', I', r', z⟩ => rel_back r' ⟨v', H', I', r', z⟩) fun _ _ z => z
theorem looksI {v : V} {u : Value} (n : ∃ i, v = .int i) (r : RelV v u) (s : Shared) (M : Model) : PySem.W.Looks M s.heap (typeOf u) (.type "int") := by
  obtain ⟨i, rfl⟩ := n
  obtain ⟨t, rfl⟩ := (show ∃ t, u = Value.int i t from r)
  exact PySem.W.Looks.of_pure rfl
theorem decI_add {P : Program} {w : World} {A : Around} {E' : Value → Shared → Prop} (v : V) (u : Value) (s : Shared) (a : Addr) (ox : Obj) (Q : Option Value → Shared → Prop) (n : ∃ i, v = .int i) (r : RelV v u) (e : s.heap.get? a = some ox) (hd : ox.data = .plain) (h : Q none s) :
    wpAny (model P w) A (tryMethod u (PySem.dunder "add") (.ref a)) Q E' s := by
  obtain ⟨i, rfl⟩ := n
  obtain ⟨t, rfl⟩ := (show ∃ t, u = Value.int i t from r)
  exact try_decl PySem.F.slot_int_add (typeIs_int s i t) PySem.F.entry_int_add (PySem.F.args_int_add_2 _ _) (fun h => dI_add e hd h) Q h
theorem decB_add {P : Program} {w : World} {A : Around} {E' : Value → Shared → Prop} (v : V) (u : Value) (s : Shared) (a : Addr) (ox : Obj) (Q : Option Value → Shared → Prop) (n : ∃ b, v = .bl b) (r : RelV v u) (e : s.heap.get? a = some ox) (hd : ox.data = .plain) (h : Q none s) :
    wpAny (model P w) A (tryMethod u (PySem.dunder "add") (.ref a)) Q E' s := by
  obtain ⟨b, rfl⟩ := n
  obtain rfl := (show u = Value.bool b from r)
  exact try_decl PySem.F.slot_bool_add (PySem.typeIs_bool s b) PySem.F.entry_int_add (PySem.F.args_int_add_2 _ _) (fun h => dB_add e hd h) Q h
end
end L3
namespace L3
open PySem PySem.Spec PyProof.Rows L2
end L3
end
section
namespace L3
open PySem PySem.Spec PyProof.Rows L2 LamX
section
variable {P : Program} {w : World} {K : PySem.W.Frag} {mg : Str → Option Value} {base : Heap} {CX : CXT} {x qual : Str} {f : Addr} {fd : FuncData} {N ps : List Str} {k : Nat} {sp : Sp}
theorem funO {st : Stmt} (F : L2.Fun K x qual st f fd) (S : FnScope N ps (defScope st)) (len : ∀ vs H Q E, sp vs H Q E → vs.length = ps.length)
    (body : ∀ (cd : Value) (A : Around) (fr : List Env) (s : Shared) (H : Hp) (vs : List V) (Q : VK) (E : XK), Room k (A.deeper (envOfC qual (defScope st) s.heap.objs.size f cd)) → sp vs H Q E →
      ∃ t, PSs (cxOf CX P w K mg base N qual (defScope st) f cd A fr s H E) (defBody st) t ∧ t { nx := fun _ H' => Q .non H', rt := Q } (L2.start N vs) H) :
    FnOk P w K mg base CX (k + 1) f fd ps sp := by
  obtain ⟨oc, od, kV, doc, pm, an, cd, ct, sl, rfl, lk, hcd⟩ := F.ex
  exact ⟨len, fun A fr s H as us vs Q E hr e0 hb r h => LamX.run_ofS lk hcd S hr e0 hb r (len _ _ _ _ h) fun hr' => body cd A fr s H vs Q E hr' h⟩
theorem funDO {pa : Arguments} {bd : List Stmt} {sc : Scope} {dvs : List V} {kws : List (Str × V)}
    (F : FunD K x qual pa bd sc dvs kws f fd) (S : FnScope N ps sc) (len : ∀ vs H Q E, sp vs H Q E → vs.length = ps.length)
    (body : ∀ (cd : Value) (A : Around) (fr : List Env) (s : Shared) (H : Hp) (vs : List V) (Q : VK) (E : XK), Room k (A.deeper (envOfC qual sc s.heap.objs.size f cd)) → sp vs H Q E →
      ∃ t, PSs (cxOf CX P w K mg base N qual sc f cd A fr s H E) bd t ∧ t { nx := fun _ H' => Q .non H', rt := Q } (L2.start N vs) H) :
    FnOk P w K mg base CX (k + 1) f fd ps sp := by
  obtain ⟨oc, od, dV, kV, doc, pm, an, cd, ct, sl, rfl, lk, hcd, _⟩ := F.ex
  exact ⟨len, fun A fr s H as us vs Q E hr e0 hb r h => LamX.run_ofS lk hcd S hr e0 hb r (len _ _ _ _ h) fun hr' => body cd A fr s H vs Q E hr' h⟩
/-- a def of the module, called by its name -/
structure FnO (P : Program) (w : World) (K : PySem.W.Frag) (mg : Str → Option Value) (base : Heap) (CX : CXT) (k : Nat) (x : Str) (ps : List Str) (sp : Sp) : Prop where
  ex : ∃ (f : Addr) (fd : FuncData), FnOk P w K mg base CX k f fd ps sp ∧ mg x = some (.ref f) ∧ PySem.W.keepIn K (.ref f) = true ∧ L2.Binds K fd ps []
/-- a class of the module, made by its name -/
structure McO (P : Program) (w : World) (K : PySem.W.Frag) (mg : Str → Option Value) (base : Heap) (CX : CXT) (k : Nat) (x : Str) (C : Addr) (ps : List Str) (sp : Sp) (dvs : List V) : Prop where
  ex : ∃ (f : Addr) (fd : FuncData) (ds : List Value), FnOk P w K mg base CX k f fd ps sp ∧ mg x = some (.ref C) ∧ Mk K C f ∧ L2.Binds K fd ps ds ∧ Vals dvs ds
end
section
variable {X : Cx} {CX : CXT} {k : Nat} {ps : List Str} {sp : Sp} {E : XK} {x : Str} {p pos : Pos} {e : Expr} {es : List Expr} {t : TA}
theorem pe_o {j : Nat} (c : FnO X.prog X.w X.K X.mg X.base CX k x ps sp) (hr : Room j X.A) (hx : Passes CX X E) (ha : PA X (e :: es) t) (hk : k ≤ j := by decide) (gl : Gl X x := by rfl)
    (hdb : (x == ("__debug__" : Str)) = false := by decide) (he : starEach (e :: es) X.env = (false, eval e X.env) :: starEach es X.env := by rfl) (hpl : (backTo pos (starEach es X.env)).any (·.1) = false := by rfl) :
    PE X (.Call (.Name x p) (e :: es) [] pos) (tCall sp [] E t) := by
  obtain ⟨f, fd, F, m, kp, b⟩ := c.ex
  exact pe_call F (hr.mono hk) gl m kp b .nil hx ha hdb he hpl
theorem pe_mko {j : Nat} {C : Addr} {dvs : List V} (c : McO X.prog X.w X.K X.mg X.base CX k x C ps sp dvs) (hr : Room j X.A) (hx : Passes CX X E) (ha : PA X (e :: es) t) (hk : k + 1 ≤ j := by decide) (gl : Gl X x := by rfl)
    (hdb : (x == ("__debug__" : Str)) = false := by decide) (he : starEach (e :: es) X.env = (false, eval e X.env) :: starEach es X.env := by rfl) (hpl : (backTo pos (starEach es X.env)).any (·.1) = false := by rfl) :
    PE X (.Call (.Name x p) (e :: es) [] pos) (tMake C sp dvs E t) := by
  obtain ⟨f, fd, ds, F, m, M, b, hd⟩ := c.ex
  exact pe_make M F (hr.mono hk) gl m b hd hx ha hdb he hpl
/-- nothing leaves -/
theorem passF : Passes (L2.CX X.prog X.w) X (fun _ _ _ => False) := fun _ _ _ _ _ _ _ ⟨_, _, _, _, _, _, _, _, _, _, _, _, z⟩ => z.elim
theorem passT {W : WX} (tk : Takes X W) (hW : ∀ cls d σ H, E cls d H → W cls d σ H) : Passes (L2.CX X.prog X.w) X E := passes_call tk hW
end
structure Er1 (P : Program) (w : World) (K : PySem.W.Frag) (mg : Str → Option Value) (base : Heap) (x : Str) (C : Addr) (g : Str) : Prop where
  oex : OexC K C
  m : mg x = some (.ref C)
  ex : ∃ (f : Addr) (fd : FuncData) (y : Str), PySem.W.findIn K (.ref C) "__init__" = some (some (.ref f)) ∧ PySem.W.typeIn K (.ref f) = some (.type "function") ∧ FnOk P w K mg base CX0 1 f fd ["self", y] (spErr1 C g) ∧ L2.Binds K fd ["self", y] []
def Rz (C : Addr) (g : Str) (v : V) (H : Hp) (E : XK) : Prop := ∀ d H', H d = none → Ex H H' → H' d = some (.xd [(g, v)]) → E (.ref C) (some d) H'
def rMk1 (C : Addr) (g : Str) (vs : List V) (H1 : Hp) (E : XK) : Prop := vs.length ≤ 1000 ∧ ∀ a, H1 a = none → spErr1 C g (.ref a :: (vs ++ [])) (upd H1 a (exo a C none))
  (fun v H2 => v = .non ∧ ∃ (d : Addr) (fs : List (Str × V)), H2 a = some (exo a C (some d)) ∧ H2 d = some (exd d fs) ∧ H1 d = none ∧ E (.ref C) (some d) (upd (del H2 a) d (.xd fs))) (fun _ _ _ => False)
def tRaise1 (C : Addr) (g : Str) (te : TE) (W : WX) : TS := fun _ σ H => te σ H fun v H1 => rMk1 C g [v] H1 (fun cls d H' => W cls d σ H')
theorem ps_raise1 {X : Cx} {W : WX} {x g : Str} {C : Addr} {j : Nat} {e : Expr} {te : TE} {p p1 pos : Pos} (c : Er1 X.prog X.w X.K X.mg X.base x C g) (hr : Room j X.A) (hc : X.calm = true) (tk : Takes X W) (ha : PA X [e] (tCons te tNil)) (hk : 2 ≤ j := by decide) (gl : Gl X x := by rfl)
    (hdb : (x == ("__debug__" : Str)) = false := by decide) (hst : starEach [e] X.env = (false, eval e X.env) :: starEach [] X.env := by rfl) :
    PS X (.Raise (some (.Call (.Name x p) [e] [] p1)) none pos) (tRaise1 C g te W) := by
  obtain ⟨f, fd, y, i1, i2, F, b⟩ := c.ex
  exact ps_raise (pos := pos) hc tk (pmk_oex (p := p) (pos := p1) c.oex i1 i2 F (hr.mono hk) b .nil pass0 gl c.m ha hdb hst)
theorem s_raise1 {C : Addr} {g : Str} {te : TE} {W : WX} {D : Ends} {σ : L2.St} {H : Hp} (h : te σ H fun v H1 => rMk1 C g [v] H1 (fun cls d H' => W cls d σ H')) : tRaise1 C g te W D σ H := h
theorem s_rz {C : Addr} {g : Str} {v : V} {H : Hp} {E : XK} (h : Rz C g v H E) : rMk1 C g [v] H E := by
  refine ⟨(show 1 ≤ 1000 by decide), fun a ha => ⟨a, v, rfl, upd_same, fun dx h1 h2 => ⟨rfl, dx, _, upd_same, ?_, ?_, h dx _ ?_ ?_ upd_same⟩⟩⟩
  · rw [upd_ne h2, upd_same]
  · rw [upd_ne h2] at h1; exact h1
  · rw [upd_ne h2] at h1; exact h1
  · intro b o e
    have n1 : b ≠ a := ne_of_none e ha
    have n2 : b ≠ dx := by
      rw [upd_ne h2] at h1
      exact ne_of_none e h1
    rw [upd_ne n2, del_ne n1, upd_ne n1, upd_ne n2, upd_ne n1]
    exact e
end L3
end
section
namespace L3
open PySem PySem.Spec PyProof.Rows L2 LamX
inductive Od (H : Hp) : V → Str → Prop
  | non : Od H .non (PyData.shown .none)
  | bl (b : Bool) : Od H (.bl b) (PyData.shown (.bool b))
  | str (z : Str) : z.length ≤ 100 → (PyData.str z).shown.length ≤ 1001 → Od H (.str z) (PyData.str z).shown
  | tup {p : Addr} {xs : List V} : H p = some (.tup xs) → xs.all fitF = true → (PyData.tuple (xs.map flatD)).shown.length ≤ 1000 → Od H (.ref p) (PyData.tuple (xs.map flatD)).shown
  | lst {p : Addr} {xs : List V} : H p = some (.lst xs) → xs.all fitF = true → xs.length ≤ 1000 → Od H (.ref p) (PyData.list (xs.map flatD)).shown
  | dic {p : Addr} : H p = some (.dK []) → Od H (.ref p) (PyData.dict []).shown
theorem Od.ex {H H' : Hp} {v : V} {t : Str} (h : Od H v t) (e : Ex H H') : Od H' v t := by
  cases h with
  | non => exact .non
  | bl b => exact .bl b
  | str z h1 h3 => exact .str z h1 h3
  | tup h1 h2 h3 => exact .tup (e _ _ h1) h2 h3
  | lst h1 h2 h3 => exact .lst (e _ _ h1) h2 h3
  | dic h1 => exact .dic (e _ _ h1)
abbrev odTys : List String := ["NoneType", "bool", "str", "tuple", "list", "dict"]
theorem Od.ty {K : PySem.W.Frag} {H : Hp} {v : V} {t : Str} (h : Od H v t) : (∃ b, v = .bl b) ∨ ∃ T, TyX K H v (.type T) ∧ T ∈ ["NoneType", "str", "tuple", "list", "dict"] := by
  cases h with
  | non => exact .inr ⟨_, .base .non, by simp⟩
  | bl b => exact .inl ⟨b, rfl⟩
  | str z _ _ => exact .inr ⟨_, .base (.str z), by simp⟩
  | tup h1 _ _ => exact .inr ⟨_, .base (.tup h1), by simp⟩
  | lst h1 _ _ => exact .inr ⟨_, .base (.lst h1), by simp⟩
  | dic h1 => exact .inr ⟨_, .base (.dK h1), by simp⟩
theorem Od.tyAll {K : PySem.W.Frag} {H : Hp} {v : V} {t : Str} (h : Od H v t) : ∃ T, TyX K H v (.type T) ∧ T ∈ odTys := by
  rcases h.ty (K := K) with ⟨b, rfl⟩ | ⟨T, h1, h2⟩
  · exact ⟨_, .base (.bl b), by simp⟩
  · exact ⟨T, h1, by simp only [List.mem_cons] at h2 ⊢; rcases h2 with h | h | h | h | h | h <;> simp_all⟩
theorem Od.noInt {K : PySem.W.Frag} {H : Hp} {v : V} {t : Str} (h : Od H v t) : (∃ b, v = .bl b) ∨ ∃ ty, TyA K H v ty ∧ PySem.W.kitOne K ty (.type "int") = some false := by
  rcases h.ty (K := K) with ⟨b, rfl⟩ | ⟨T, h1, h2⟩
  · exact .inl ⟨b, rfl⟩
  · refine .inr ⟨_, .x h1, ?_⟩
    simp only [List.mem_cons, List.not_mem_nil, or_false] at h2
    rcases h2 with rfl | rfl | rfl | rfl | rfl <;> exact kit_ty (by decide +kernel)
theorem Od.noCls {K : PySem.W.Frag} {H : Hp} {v : V} {t : Str} {C : Addr} (h : Od H v t) (f : odTys.all (fun T => decide (PySem.W.kitOne K (.type T) (.ref C) = some false)) = true) : ∃ ty, TyA K H v ty ∧ PySem.W.kitOne K ty (.ref C) = some false := by
  obtain ⟨T, h1, h2⟩ := h.tyAll (K := K)
  exact ⟨_, .x h1, of_decide_eq_true (List.all_eq_true.mp f T h2)⟩
end L3
end
section
namespace L3
open PySem PySem.Spec PyProof.Rows L2 LamX
def sgn (b : Int) : Int := if 0 < b then 1 else -1
def rO (a b : Int) : Int := sgn b * a / ((Nat.gcd a.natAbs b.natAbs : Nat) : Int)
def rU' (a b : Int) : Int := sgn b * b / ((Nat.gcd a.natAbs b.natAbs : Nat) : Int)
def flds (o u : Int) : List (Str × V) := putF "under" (.int u) (putF "over" (.int o) [])
theorem abs_nat (i : Int) : (if i < 0 then -i else i) = ((i.natAbs : Nat) : Int) := by split <;> omega
theorem sgn_mul {b x : Int} : IntMulOk (sgn b) x := mulL (by unfold sgn; split <;> decide)
theorem gcd_bits {a b : Int} {k : Nat} (hb : b ≠ 0) (h : b.natAbs < 2 ^ k) (hk : 0 < k) (h9 : k ≤ 9000) (i : Int) : CDivW i ((Nat.gcd a.natAbs b.natAbs : Nat) : Int) := by
  have hp : 0 < Nat.gcd a.natAbs b.natAbs := Nat.gcd_pos_of_pos_right _ (by omega)
  have hl : Nat.gcd a.natAbs b.natAbs ≤ b.natAbs := Nat.gcd_le_right _ (by omega)
  exact wide_div (b := k) (by omega) (by rw [Int.natAbs_natCast]; omega) hk h9
theorem sgn_self {b : Int} : sgn b * b = (b.natAbs : Int) := by unfold sgn; split <;> omega
theorem gcd_pos' {a b : Int} (hb : b ≠ 0) : (0 : Int) < ((Nat.gcd a.natAbs b.natAbs : Nat) : Int) := by
  have hp : 0 < Nat.gcd a.natAbs b.natAbs := Nat.gcd_pos_of_pos_right _ (by omega)
  omega
theorem gcd_dvd_l {a b : Int} : ((Nat.gcd a.natAbs b.natAbs : Nat) : Int) ∣ a := Int.ofNat_dvd_left.mpr (Nat.gcd_dvd_left _ _)
theorem gcd_dvd_r {a b : Int} : ((Nat.gcd a.natAbs b.natAbs : Nat) : Int) ∣ b := Int.ofNat_dvd_left.mpr (Nat.gcd_dvd_right _ _)
/-- the pair is the fraction in least terms, k times -/
theorem r_scale {a b : Int} (hb : b ≠ 0) : ∃ k : Int, k ≠ 0 ∧ a = rO a b * k ∧ b = rU' a b * k := by
  refine ⟨sgn b * ((Nat.gcd a.natAbs b.natAbs : Nat) : Int), ?_, ?_, ?_⟩
  · have := gcd_pos' (a := a) hb
    unfold sgn
    split <;> omega
  · obtain ⟨c, hc⟩ := gcd_dvd_l (a := a) (b := b)
    have hp := gcd_pos' (a := a) hb
    unfold rO
    generalize ((Nat.gcd a.natAbs b.natAbs : Nat) : Int) = g at hc hp ⊢
    have e : sgn b * a / g = sgn b * c := by
      rw [hc, show sgn b * (g * c) = g * (sgn b * c) by rw [Int.mul_left_comm], Int.mul_ediv_cancel_left _ (by omega)]
    rw [e, hc]
    have s1 : sgn b * sgn b = 1 := by unfold sgn; split <;> rfl
    calc g * c = (sgn b * sgn b) * (g * c) := by rw [s1, Int.one_mul]
      _ = sgn b * c * (sgn b * g) := by ac_rfl
  · obtain ⟨c, hc⟩ := gcd_dvd_r (a := a) (b := b)
    have hp := gcd_pos' (a := a) hb
    unfold rU'
    generalize ((Nat.gcd a.natAbs b.natAbs : Nat) : Int) = g at hc hp ⊢
    have e : sgn b * b / g = sgn b * c := by
      conv => lhs; rw [show sgn b * b = sgn b * (g * c) by rw [← hc], show sgn b * (g * c) = g * (sgn b * c) by rw [Int.mul_left_comm]]
      rw [Int.mul_ediv_cancel_left _ (by omega)]
    rw [e]
    have s1 : sgn b * sgn b = 1 := by unfold sgn; split <;> rfl
    calc b = g * c := hc
      _ = (sgn b * sgn b) * (g * c) := by rw [s1, Int.one_mul]
      _ = sgn b * c * (sgn b * g) := by ac_rfl
theorem rU_pos {a b : Int} (hb : b ≠ 0) : 0 < rU' a b := by
  unfold rU'
  rw [sgn_self]
  have h1 : Nat.gcd a.natAbs b.natAbs ≤ b.natAbs := Nat.gcd_le_right _ (by omega)
  exact Int.ediv_pos_of_pos_of_dvd (by omega) (by omega) (Int.natCast_dvd_natCast.mpr (Nat.gcd_dvd_right _ _))
theorem r_one (i : Int) : rO i 1 = i ∧ rU' i 1 = 1 := by
  unfold rO rU'
  rw [show (1 : Int).natAbs = 1 from rfl, Nat.gcd_one_right]
  exact ⟨by show 1 * i / 1 = i; omega, rfl⟩
def Rt (C : Addr) (H : Hp) (p : Addr) (o u : Int) : Prop := ∃ dx, H p = some (.ins C dx (flds o u))
/-- a number: a fraction or an int -/
def Nm (C : Addr) (H : Hp) (y : V) (o u : Int) : Prop := (∃ q, y = .ref q ∧ Rt C H q o u) ∨ (y = .int o ∧ u = 1)
theorem ins_tbl {C dx : Addr} {fs : List (Str × V)} : ∀ ps, HO.ins C dx fs ≠ .tbl ps := fun _ z => nomatch z
theorem Rt.exN {C : Addr} {H H' : Hp} {p : Addr} {o u : Int} (h : Rt C H p o u) (e : ExtN H H') : Rt C H' p o u := by
  obtain ⟨dx, h⟩ := h
  exact ⟨dx, e _ _ h ins_tbl⟩
theorem Ex.n {H H' : Hp} (e : Ex H H') : ExtN H H' := fun b o h _ => e b o h
theorem Rt.ex {C : Addr} {H H' : Hp} {p : Addr} {o u : Int} (h : Rt C H p o u) (e : Ex H H') : Rt C H' p o u := h.exN e.n
theorem Nm.exN {C : Addr} {H H' : Hp} {y : V} {o u : Int} (h : Nm C H y o u) (e : ExtN H H') : Nm C H' y o u := by
  rcases h with ⟨q, rfl, h⟩ | h
  · exact .inl ⟨q, rfl, h.exN e⟩
  · exact .inr h
theorem Nm.ex {C : Addr} {H H' : Hp} {y : V} {o u : Int} (h : Nm C H y o u) (e : Ex H H') : Nm C H' y o u := h.exN e.n
theorem Od.exN {H H' : Hp} {v : V} {t : Str} (h : Od H v t) (e : ExtN H H') : Od H' v t := by
  cases h with
  | non => exact .non
  | bl b => exact .bl b
  | str z h1 h3 => exact .str z h1 h3
  | tup h1 h2 h3 => exact .tup (e _ _ h1 fun _ z => nomatch z) h2 h3
  | lst h1 h2 h3 => exact .lst (e _ _ h1 fun _ z => nomatch z) h2 h3
  | dic h1 => exact .dic (e _ _ h1 fun _ z => nomatch z)
/-- within bounds -/
structure Bd (o u : Int) : Prop where
  ho : o.natAbs < 2 ^ 1000
  hu : u.natAbs < 2 ^ 1000
  pos : 0 < u
theorem Bd.ne {o u : Int} (b : Bd o u) : u ≠ 0 := by have := b.pos; omega
def spIsI : Sp := fun vs H Q _ => ∃ x, vs = [x] ∧ ((∃ i, x = .int i ∧ Q (.bl true) H) ∨ (∃ t, Od H x t ∧ Q (.bl false) H))
def spCommon : Sp := fun vs H Q _ => ∃ a b : Nat, vs = [.int a, .int b] ∧ Q (.int ((Nat.gcd a b : Nat) : Int)) H
def spRatio (C CB : Addr) : Sp := fun vs H Q E => ∃ (p dx : Addr) (x y : V), vs = [.ref p, x, y] ∧ H p = some (.ins C dx []) ∧
  ((∃ a b : Int, x = .int a ∧ y = .int b ∧ b ≠ 0 ∧ b.natAbs < 2 ^ 8000 ∧ ∀ H', (∀ c, c ≠ p → H' c = H c) → H' p = some (.ins C dx (flds (rO a b) (rU' a b))) → Q .non H') ∨
    (∃ t, Od H x t ∧ Rz CB "value" x H E) ∨ (∃ a : Int, x = .int a ∧ ((∃ t, Od H y t) ∨ y = .int 0) ∧ Rz CB "value" y H E))
def spTold (C CB : Addr) : Sp := fun vs H Q E => ∃ x, vs = [x] ∧ ((∃ o u, Nm C H x o u ∧ ∀ q H', Ex H H' → Rt C H' q o u → Q (.ref q) H') ∨ (∃ t, Od H x t ∧ Rz CB "value" x H E))
def spBin (g : Int → Int → Int → Int → Int) (C CB : Addr) : Sp := fun vs H Q E => ∃ p y o u, vs = [.ref p, y] ∧ Rt C H p o u ∧ Bd o u ∧
  ((∃ o' u', Nm C H y o' u' ∧ Bd o' u' ∧ ∀ q H', H q = none → Ex H H' → Rt C H' q (rO (g o u o' u') (u * u')) (rU' (g o u o' u') (u * u')) → Q (.ref q) H') ∨ (∃ t, Od H y t ∧ Rz CB "value" y H E))
def gAdd (o u o' u' : Int) : Int := o * u' + o' * u
structure OpK (op : Operator) : Prop where
  flI : fillsNumberSlot (.type "int") op.info.2 = pure true
  flB : fillsNumberSlot (.type "bool") op.info.2 = pure true
  dI : ∀ (P : Program) (w : World) (A : Around) (E' : Value → Shared → Prop) (v : V) (u : Value) (s : Shared) (a : Addr) (ox : Obj) (Q : Option Value → Shared → Prop), (∃ i, v = .int i) → RelV v u → s.heap.get? a = some ox → ox.data = .plain → Q none s →
    wpAny (model P w) A (tryMethod u (PySem.dunder op.info.2) (.ref a)) Q E' s
  dB : ∀ (P : Program) (w : World) (A : Around) (E' : Value → Shared → Prop) (v : V) (u : Value) (s : Shared) (a : Addr) (ox : Obj) (Q : Option Value → Shared → Prop), (∃ b, v = .bl b) → RelV v u → s.heap.get? a = some ox → ox.data = .plain → Q none s →
    wpAny (model P w) A (tryMethod u (PySem.dunder op.info.2) (.ref a)) Q E' s
theorem opK_add : OpK .Add := ⟨by rfl, by rfl, fun _ _ _ _ => decI_add, fun _ _ _ _ => decB_add⟩
abbrev numTys : List String := ["int", "NoneType", "bool", "str", "tuple", "list", "dict"]
def othersB (K : PySem.W.Frag) (C : Addr) (op : Operator) : Bool := numTys.all fun T =>
  (PySem.W.findIn K (.type T) (PySem.dunder op.info.2)).isSome && ((PySem.W.findIn K (.type T) (dunderR op.info.2)).isSome && decide (PySem.W.subIn K (.type T) (.ref C) = some false))
/-- what the written part says of the class's operator -/
structure BinF (K : PySem.W.Frag) (C : Addr) (op : Operator) : Prop where
  self : PySem.W.selfFirst K C = true
  others : othersB K C op = true
  subI : PySem.W.subIn K (.ref C) (.type "int") = some false
  subB : PySem.W.subIn K (.ref C) (.type "bool") = some false
  inI : PySem.W.findIn K (.type "int") (dunderI op.info.2) = some none
  inC : PySem.W.findIn K (.ref C) (dunderI op.info.2) = some none
  inO : PySem.W.findIn K (.type "object") (dunderI op.info.2) = some none
  mro : (PySem.W.clsIn K C).map (·.mro) = some [.ref C, .type "object"]
structure BinM (P : Program) (w : World) (K : PySem.W.Frag) (mg : Str → Option Value) (base : Heap) (C : Addr) (op : Operator) (k : Nat) (sp spR : Sp) : Prop where
  f : BinF K C op
  ex : ∃ (f : Addr) (fd : FuncData) (g : Addr) (gd : FuncData), PySem.W.findIn K (.ref C) (PySem.dunder op.info.2) = some (some (.ref f)) ∧ PySem.W.findIn K (.ref C) (dunderR op.info.2) = some (some (.ref g)) ∧ PySem.W.isFn K (.ref f) = true ∧ PySem.W.isFn K (.ref g) = true ∧
    FnOk P w K mg base (L2.CX P w) k f fd ["self", "other"] sp ∧ L2.Binds K fd ["self", "other"] [] ∧ FnOk P w K mg base (L2.CX P w) k g gd ["self", "other"] spR ∧ L2.Binds K gd ["self", "other"] []
def OthV (C : Addr) (y : V) (H : Hp) : Prop := (∃ b dx fs, y = .ref b ∧ H b = some (.ins C dx fs)) ∨ (∃ i, y = .int i) ∨ ∃ t, Od H y t
/-- own first -/
def rOwn (C : Addr) (sp : Sp) (E : XK) : R2 := fun x y H Q => ∃ a dx fs, x = .ref a ∧ H a = some (.ins C dx fs) ∧ OthV C y H ∧ sp [x, y] H Q E
/-- an int, then own -/
def rInt (C : Addr) (sp : Sp) (E : XK) : R2 := fun x y H Q => ∃ a dx fs, y = .ref a ∧ H a = some (.ins C dx fs) ∧ (∃ i, x = .int i) ∧ sp [y, x] H Q E
def rBin (C : Addr) (sp spR : Sp) (E : XK) : R2 := fun x y H Q => rOwn C sp E x y H Q ∨ rInt C spR E x y H Q
section
variable {X : Cx} {C : Addr} {op : Operator} {k j : Nat} {sp spR : Sp} {E : XK}
theorem oth_of {K : PySem.W.Frag} {y : V} {H : Hp} (F : BinF K C op) (h : OthV C y H) : Other K C op y H := by
  have go : ∀ T, TyX K H y (.type T) → T ∈ numTys → Other K C op y H := fun T ty hm => by
    have q := List.all_eq_true.mp F.others T hm
    rw [Bool.and_eq_true, Bool.and_eq_true] at q
    obtain ⟨q1, q2, q3⟩ := q
    obtain ⟨fo, e1⟩ := Option.isSome_iff_exists.mp q1
    obtain ⟨ro, e2⟩ := Option.isSome_iff_exists.mp q2
    exact .inr ⟨T, fo, ro, ty, e1, e2, of_decide_eq_true q3⟩
  rcases h with h | ⟨i, rfl⟩ | ⟨t, h⟩
  · exact .inl h
  · exact go _ (.base (.int i)) (by simp)
  · obtain ⟨T, h1, h2⟩ := h.tyAll (K := K)
    exact go T h1 (List.mem_cons_of_mem _ h2)
theorem op1Own (B : BinM X.prog X.w X.K X.mg X.base C op k sp spR) (hr : Room j X.A) (hx : Passes (L2.CX X.prog X.w) X E) (hk : k ≤ j := by decide) : OpR1 X op (rOwn C sp E) := by
  obtain ⟨f, fd, g, gd, h1, h2, h3, h4, F, b, G, b'⟩ := B.ex
  intro pins s σ H x y v u Q I rx ry h
  obtain ⟨a, dx, fs, e, ea, ho, q⟩ := h
  exact op_own (f := f) ⟨B.f.self, h1, h3, _, h2, .inr ⟨g, rfl⟩⟩ F (hr.mono hk) b hx pins s σ H x y v u Q I rx ry ⟨a, dx, fs, e, ea, oth_of B.f ho, q⟩
theorem op1Int (o : OpK op) (B : BinM X.prog X.w X.K X.mg X.base C op k sp spR) (hr : Room j X.A) (hx : Passes (L2.CX X.prog X.w) X E) (hk : k ≤ j := by decide) : OpR1 X op (rInt C spR E) := by
  obtain ⟨f, fd, g, gd, h1, h2, h3, h4, F, b, G, b'⟩ := B.ex
  intro pins s σ H x y v u Q I rx ry h
  obtain ⟨a, dx, fs, e, ea, ho, q⟩ := h
  exact op_reflI (T := "int") (n := fun v => ∃ i, v = .int i) (fun _ _ n r s M => looksI n r s M) B.f.self h1 h2 h4 o.flI B.f.subI (fun v u s a ox Q => o.dI _ _ _ _ v u s a ox Q) G (hr.mono hk) b' hx pins s σ H x y v u Q I rx ry ⟨a, dx, fs, e, ea, ho, q⟩
theorem opBin (o : OpK op) (B : BinM X.prog X.w X.K X.mg X.base C op k sp spR) (hr : Room j X.A) (hx : Passes (L2.CX X.prog X.w) X E) (hk : k ≤ j := by decide) : OpR X (binaryOp op) (rBin C sp spR E) := ((op1Own B hr hx hk).or (op1Int o B hr hx hk)).bin
end
section
variable {C CB : Addr} {H : Hp} {Q : VK} {x y : V} {o u o' u' : Int} {g g' : Int → Int → Int → Int → Int} {E : XK}
/-- two numbers, one of them a fraction at least -/
theorem s_bin (hc : ∀ o u o' u', g' o' u' o u = g o u o' u') (n1 : Nm C H x o u) (n2 : Nm C H y o' u') (one : (∃ q, x = .ref q) ∨ ∃ q, y = .ref q) (b1 : Bd o u) (b2 : Bd o' u')
    (h : ∀ q H', H q = none → Ex H H' → Rt C H' q (rO (g o u o' u') (u * u')) (rU' (g o u o' u') (u * u')) → Q (.ref q) H') : rBin C (spBin g C CB) (spBin g' C CB) E x y H Q := by
  rcases n1 with ⟨q, rfl, r1⟩ | ⟨rfl, rfl⟩
  · refine .inl ?_
    obtain ⟨dx, e⟩ := id r1
    refine ⟨q, dx, _, rfl, e, ?_, q, y, o, u, rfl, r1, b1, .inl ⟨o', u', n2, b2, h⟩⟩
    rcases n2 with ⟨q', rfl, dx', e'⟩ | ⟨rfl, rfl⟩
    · exact .inl ⟨q', dx', _, rfl, e'⟩
    · exact .inr (.inl ⟨_, rfl⟩)
  · rcases n2 with ⟨q', rfl, r2⟩ | ⟨rfl, rfl⟩
    · refine .inr ?_
      obtain ⟨dx', e'⟩ := id r2
      refine ⟨q', dx', _, rfl, e', ⟨_, rfl⟩, q', _, o', u', rfl, r2, b2, .inl ⟨o, 1, .inr ⟨rfl, rfl⟩, b1, fun q H' hq he hr => h q H' hq he ?_⟩⟩
      rw [hc, Int.mul_comm u' 1] at hr
      exact hr
    · rcases one with ⟨q, e⟩ | ⟨q, e⟩ <;> cases e
/-- Ratio(a, b), as a step -/
theorem s_mkR {a b : Int} (hb : b ≠ 0) (h8 : b.natAbs < 2 ^ 8000) (h : ∀ q H', H q = none → Ex H H' → Rt C H' q (rO a b) (rU' a b) → Q (.ref q) H') :
    ∀ p dx, H p = none → H dx = none → dx ≠ p → spRatio C CB (.ref p :: ([.int a, .int b] ++ [])) (upd (upd H dx (.own p)) p (.ins C dx [])) (fun v H2 => v = .non ∧ ap Q (.ref p) H2) E := fun p dx hp hd hn => by
  refine ⟨p, dx, _, _, rfl, upd_same, .inl ⟨a, b, rfl, rfl, hb, h8, fun H' h1 h2 => ⟨rfl, h p H' hp (fun c o e => ?_) ⟨dx, h2⟩⟩⟩⟩
  rw [h1 c (ne_of_none e hp), upd_ne (ne_of_none e hp), upd_ne (ne_of_none e hd)]
  exact e
theorem s_mkR1 {a : Int} (h : ∀ q H', H q = none → Ex H H' → Rt C H' q a 1 → Q (.ref q) H') :
    ∀ p dx, H p = none → H dx = none → dx ≠ p → spRatio C CB (.ref p :: ([.int a] ++ [.int 1])) (upd (upd H dx (.own p)) p (.ins C dx [])) (fun v H2 => v = .non ∧ ap Q (.ref p) H2) E := by
  refine s_mkR (a := a) (b := 1) (by decide) (by decide) fun q H' h1 h2 h3 => h q H' h1 h2 ?_
  rw [(r_one a).1, (r_one a).2] at h3
  exact h3
end
end L3
end
section
namespace K30H
open PySem PySem.Spec PyProof.Rows L2 L3 LamX
def topS (i : Nat) : Stmt := PySem.Challenge.pw_latechunks_k30_whole_small_lists_over_al.main.body.getD i (.Pass ⟨0, 0, 0, 0⟩)
abbrev s_BadChunks___init__ : Stmt := inClass (topS 18) 0
abbrev s_BadCost___init__ : Stmt := inClass (topS 14) 0
abbrev s_BadCrew___init__ : Stmt := inClass (topS 19) 0
abbrev s_BadFee___init__ : Stmt := inClass (topS 15) 0
abbrev s_BadName___init__ : Stmt := inClass (topS 11) 0
abbrev s_BadRatio___init__ : Stmt := inClass (topS 16) 0
abbrev s_BadRest___init__ : Stmt := inClass (topS 17) 0
abbrev s_BadSetting___init__ : Stmt := inClass (topS 20) 0
abbrev s_BadSize___init__ : Stmt := inClass (topS 12) 0
abbrev s_BadSpeed___init__ : Stmt := inClass (topS 13) 0
abbrev s_BadText___init__ : Stmt := inClass (topS 21) 0
abbrev s_Chunks___init__ : Stmt := inClass (topS 38) 1
abbrev s_Chunks_of : Stmt := inClass (topS 38) 2
abbrev s_Crew___contains__ : Stmt := inClass (topS 56) 8
abbrev s_Crew___getitem__ : Stmt := inClass (topS 56) 7
abbrev s_Crew___init__ : Stmt := inClass (topS 56) 0
abbrev s_Crew_of : Stmt := inClass (topS 56) 1
abbrev s_NoChunk___init__ : Stmt := inClass (topS 23) 0
abbrev s_NoWorker___init__ : Stmt := inClass (topS 22) 0
abbrev s_Ratio___add__ : Stmt := inClass (topS 42) 6
abbrev s_Ratio___gt__ : Stmt := inClass (topS 42) 20
abbrev s_Ratio___init__ : Stmt := inClass (topS 42) 0
abbrev s_Ratio___lt__ : Stmt := inClass (topS 42) 18
abbrev s_Ratio___radd__ : Stmt := inClass (topS 42) 7
abbrev s_Setting___init__ : Stmt := inClass (topS 64) 0
abbrev s_Setting_late_of : Stmt := inClass (topS 64) 2
abbrev s_TooMany___init__ : Stmt := inClass (topS 24) 0
abbrev s__law_all_costs : Stmt := topS 89
abbrev s__law_common : Stmt := topS 85
abbrev s__law_draw : Stmt := topS 74
abbrev s__law_is_later : Stmt := topS 88
abbrev s__law_offered : Stmt := topS 87
abbrev s__law_pen : Stmt := topS 73
abbrev s__law_pick : Stmt := topS 75
abbrev s__law_played : Stmt := topS 86
abbrev s__law_right : Stmt := topS 91
abbrev s__law_setting : Stmt := topS 77
abbrev s__law_worst : Stmt := topS 90
abbrev s_common : Stmt := topS 41
abbrev s_ends_of : Stmt := topS 36
abbrev s_first_with : Stmt := topS 55
abbrev s_is_integer : Stmt := topS 5
abbrev s_is_name : Stmt := topS 8
abbrev s_is_size : Stmt := topS 7
abbrev s_is_speed : Stmt := topS 50
abbrev s_is_within : Stmt := topS 6
abbrev s_lateness : Stmt := topS 71
abbrev s_law : Stmt := topS 92
abbrev s_need_few : Stmt := topS 33
abbrev s_need_list : Stmt := topS 68
abbrev s_need_size : Stmt := topS 32
abbrev s_need_speed : Stmt := topS 51
abbrev s_need_speeds : Stmt := topS 52
abbrev s_need_spot : Stmt := topS 61
abbrev s_place_of_greatest : Stmt := topS 70
abbrev s_rows_of : Stmt := topS 69
abbrev s_told_of : Stmt := topS 43
abbrev exD (K : PySem.W.Frag) (C : Addr) : Prop := ∃ nm q N bs bm sn sub ab col dd k0 k1 k2 k3 k5, K.lookup C = some (excClassObj nm q C N bs bm true sn sub ab col dd k0 k1 k2 k3 k5 "ValueError.__new__") ∧ PySem.HandSPX.refsVE bm = true
abbrev v2D (vs : Array Value) (f : Str) (t : Tok) : Prop := vs[2]? = some (.str f t)
abbrev w2D (l : PySem.W.OpenLaw) (f : Str) : Prop := ((l.prog.main.file : Str) == f) = true
def AllMk : Prop := ∀ {l : PySem.W.OpenLaw} {w : World} {K : PySem.W.Frag} {h : Heap} {mg : Str → Option Value} {fa CK CW CS CQ CB CC CM CN BN BS BW NW BR BE SE BA BF BT CL  : Addr} (X : K.In h) (G : h.Ns mainGlobals mg) (hfa : mg "law" = some (.ref fa))
    {f1 : Addr} {od1 an1 : Option Addr} {sl1 : Array (Option Value)} {oc1 kV1 dc1 pm1 cd1 ct1 : Value}
    {f2 : Addr} {od2 an2 : Option Addr} {sl2 : Array (Option Value)} {oc2 kV2 dc2 pm2 cd2 ct2 : Value}
    {f3 : Addr} {od3 an3 : Option Addr} {sl3 : Array (Option Value)} {oc3 kV3 dc3 pm3 cd3 ct3 : Value}
    {f4 : Addr} {od4 an4 : Option Addr} {sl4 : Array (Option Value)} {oc4 kV4 dc4 pm4 cd4 ct4 : Value}
    {f5 : Addr} {od5 an5 : Option Addr} {sl5 : Array (Option Value)} {oc5 kV5 dc5 pm5 cd5 ct5 : Value}
    {f6 : Addr} {od6 an6 : Option Addr} {sl6 : Array (Option Value)} {oc6 kV6 dc6 pm6 cd6 ct6 : Value}
    {f7 : Addr} {od7 an7 : Option Addr} {sl7 : Array (Option Value)} {oc7 kV7 dc7 pm7 cd7 ct7 : Value}
    {f8 : Addr} {od8 an8 : Option Addr} {sl8 : Array (Option Value)} {oc8 kV8 dc8 pm8 cd8 ct8 : Value}
    {f9 : Addr} {od9 an9 : Option Addr} {sl9 : Array (Option Value)} {oc9 kV9 dc9 pm9 cd9 ct9 : Value}
    {f10 : Addr} {od10 an10 : Option Addr} {sl10 : Array (Option Value)} {oc10 kV10 dc10 pm10 cd10 ct10 : Value}
    {f11 : Addr} {od11 an11 : Option Addr} {sl11 : Array (Option Value)} {oc11 kV11 dc11 pm11 cd11 ct11 : Value}
    {f12 : Addr} {od12 an12 : Option Addr} {sl12 : Array (Option Value)} {oc12 kV12 dc12 pm12 cd12 ct12 : Value}
    {f13 : Addr} {od13 an13 : Option Addr} {sl13 : Array (Option Value)} {oc13 kV13 dc13 pm13 cd13 ct13 : Value}
    {f14 : Addr} {od14 an14 : Option Addr} {sl14 : Array (Option Value)} {oc14 kV14 dc14 pm14 cd14 ct14 : Value}
    {f15 : Addr} {od15 an15 : Option Addr} {sl15 : Array (Option Value)} {oc15 kV15 dc15 pm15 cd15 ct15 : Value}
    {f16 : Addr} {od16 an16 : Option Addr} {sl16 : Array (Option Value)} {oc16 kV16 dc16 pm16 cd16 ct16 : Value}
    {f17 : Addr} {od17 an17 : Option Addr} {sl17 : Array (Option Value)} {oc17 kV17 dc17 pm17 cd17 ct17 : Value}
    {f18 : Addr} {od18 an18 : Option Addr} {sl18 : Array (Option Value)} {oc18 kV18 dc18 pm18 cd18 ct18 : Value}
    {f19 : Addr} {od19 an19 : Option Addr} {sl19 : Array (Option Value)} {oc19 kV19 dc19 pm19 cd19 ct19 : Value}
    {f20 : Addr} {od20 an20 : Option Addr} {sl20 : Array (Option Value)} {oc20 kV20 dc20 pm20 cd20 ct20 : Value}
    {f21 : Addr} {od21 an21 : Option Addr} {sl21 : Array (Option Value)} {oc21 kV21 dc21 pm21 cd21 ct21 : Value}
    {f22 : Addr} {od22 an22 : Option Addr} {sl22 : Array (Option Value)} {oc22 kV22 dc22 pm22 cd22 ct22 : Value}
    {f23 : Addr} {od23 an23 : Option Addr} {sl23 : Array (Option Value)} {oc23 kV23 dc23 pm23 cd23 ct23 : Value}
    {f24 : Addr} {od24 an24 : Option Addr} {sl24 : Array (Option Value)} {oc24 kV24 dc24 pm24 cd24 ct24 : Value}
    {f25 : Addr} {od25 an25 : Option Addr} {sl25 : Array (Option Value)} {oc25 kV25 dc25 pm25 cd25 ct25 : Value}
    {f26 : Addr} {od26 an26 : Option Addr} {sl26 : Array (Option Value)} {oc26 kV26 dc26 pm26 cd26 ct26 : Value}
    {f27 : Addr} {od27 an27 : Option Addr} {sl27 : Array (Option Value)} {oc27 kV27 dc27 pm27 cd27 ct27 : Value}
    {f28 : Addr} {od28 an28 : Option Addr} {sl28 : Array (Option Value)} {oc28 kV28 dc28 pm28 cd28 ct28 : Value}
    {f29 : Addr} {od29 an29 : Option Addr} {sl29 : Array (Option Value)} {oc29 kV29 dc29 pm29 cd29 ct29 : Value}
    {f30 : Addr} {od30 an30 : Option Addr} {sl30 : Array (Option Value)} {oc30 kV30 dc30 pm30 cd30 ct30 : Value}
    {g_CK___init__ : Addr} {od_CK___init__ an_CK___init__ : Option Addr} {sl_CK___init__ : Array (Option Value)} {oc_CK___init__ kV_CK___init__ dc_CK___init__ pm_CK___init__ cd_CK___init__ ct_CK___init__ : Value}
    {p_CK_of : Addr} {rest_CK_of : List Value}
    {g_CK_of : Addr} {od_CK_of an_CK_of : Option Addr} {sl_CK_of : Array (Option Value)} {oc_CK_of kV_CK_of dc_CK_of pm_CK_of cd_CK_of ct_CK_of : Value}
    {g_CW___init__ : Addr} {od_CW___init__ an_CW___init__ : Option Addr} {sl_CW___init__ : Array (Option Value)} {oc_CW___init__ kV_CW___init__ dc_CW___init__ pm_CW___init__ cd_CW___init__ ct_CW___init__ : Value}
    {g_CW___contains__ : Addr} {od_CW___contains__ an_CW___contains__ : Option Addr} {sl_CW___contains__ : Array (Option Value)} {oc_CW___contains__ kV_CW___contains__ dc_CW___contains__ pm_CW___contains__ cd_CW___contains__ ct_CW___contains__ : Value}
    {g_CW___getitem__ : Addr} {od_CW___getitem__ an_CW___getitem__ : Option Addr} {sl_CW___getitem__ : Array (Option Value)} {oc_CW___getitem__ kV_CW___getitem__ dc_CW___getitem__ pm_CW___getitem__ cd_CW___getitem__ ct_CW___getitem__ : Value}
    {p_CW_of : Addr} {rest_CW_of : List Value}
    {g_CW_of : Addr} {od_CW_of an_CW_of : Option Addr} {sl_CW_of : Array (Option Value)} {oc_CW_of kV_CW_of dc_CW_of pm_CW_of cd_CW_of ct_CW_of : Value}
    {g_CS_late_of : Addr} {od_CS_late_of an_CS_late_of : Option Addr} {sl_CS_late_of : Array (Option Value)} {oc_CS_late_of kV_CS_late_of dc_CS_late_of pm_CS_late_of cd_CS_late_of ct_CS_late_of : Value}
    {g_CQ___add__ : Addr} {od_CQ___add__ an_CQ___add__ : Option Addr} {sl_CQ___add__ : Array (Option Value)} {oc_CQ___add__ kV_CQ___add__ dc_CQ___add__ pm_CQ___add__ cd_CQ___add__ ct_CQ___add__ : Value}
    {g_CQ___radd__ : Addr} {od_CQ___radd__ an_CQ___radd__ : Option Addr} {sl_CQ___radd__ : Array (Option Value)} {oc_CQ___radd__ kV_CQ___radd__ dc_CQ___radd__ pm_CQ___radd__ cd_CQ___radd__ ct_CQ___radd__ : Value}
    {g_CQ___lt__ : Addr} {od_CQ___lt__ an_CQ___lt__ : Option Addr} {sl_CQ___lt__ : Array (Option Value)} {oc_CQ___lt__ kV_CQ___lt__ dc_CQ___lt__ pm_CQ___lt__ cd_CQ___lt__ ct_CQ___lt__ : Value}
    {g_CQ___gt__ : Addr} {od_CQ___gt__ an_CQ___gt__ : Option Addr} {sl_CQ___gt__ : Array (Option Value)} {oc_CQ___gt__ kV_CQ___gt__ dc_CQ___gt__ pm_CQ___gt__ cd_CQ___gt__ ct_CQ___gt__ : Value}
    {T_CS___init__ : Addr} {odT_CS___init__ : Option Addr} {slT_CS___init__ : Array (Option Value)} {ocT_CS___init__ : Value} {nT_CS___init__ : Nat} {t_CS___init__0 t_CS___init__1 t_CS___init__2 : Tok}
    {g_CS___init__ : Addr} {od_CS___init__ an_CS___init__ : Option Addr} {sl_CS___init__ : Array (Option Value)} {oc_CS___init__ kV_CS___init__ dc_CS___init__ pm_CS___init__ cd_CS___init__ ct_CS___init__ : Value}
    {T_CQ___init__ : Addr} {odT_CQ___init__ : Option Addr} {slT_CQ___init__ : Array (Option Value)} {ocT_CQ___init__ : Value} {nT_CQ___init__ : Nat} {t_CQ___init__0 : Tok}
    {g_CQ___init__ : Addr} {od_CQ___init__ an_CQ___init__ : Option Addr} {sl_CQ___init__ : Array (Option Value)} {oc_CQ___init__ kV_CQ___init__ dc_CQ___init__ pm_CQ___init__ cd_CQ___init__ ct_CQ___init__ : Value}
    {fZB ccZB cdZB : Addr} {odZB anZB cldZB cddZB : Option Addr} {slZB cslZB ccsZB : Array (Option Value)} {ocZB kVZB dcZB pmZB ctZB clZB cclZB : Value} {vsZB : Array Value} {fileZB : Str} {tfZB : Tok}
    {fZC ccZC cdZC : Addr} {odZC anZC cldZC cddZC : Option Addr} {slZC cslZC ccsZC : Array (Option Value)} {ocZC kVZC dcZC pmZC ctZC clZC cclZC : Value} {vsZC : Array Value} {fileZC : Str} {tfZC : Tok}
    {fZM ccZM cdZM : Addr} {odZM anZM cldZM cddZM : Option Addr} {slZM cslZM ccsZM : Array (Option Value)} {ocZM kVZM dcZM pmZM ctZM clZM cclZM : Value} {vsZM : Array Value} {fileZM : Str} {tfZM : Tok}
    {fZN ccZN cdZN : Addr} {odZN anZN cldZN cddZN : Option Addr} {slZN cslZN ccsZN : Array (Option Value)} {ocZN kVZN dcZN pmZN ctZN clZN cclZN : Value} {vsZN : Array Value} {fileZN : Str} {tfZN : Tok}
    {fZNa ccZNa cdZNa : Addr} {odZNa anZNa cldZNa cddZNa : Option Addr} {slZNa cslZNa ccsZNa : Array (Option Value)} {ocZNa kVZNa dcZNa pmZNa ctZNa clZNa cclZNa : Value} {vsZNa : Array Value} {fileZNa : Str} {tfZNa : Tok}
    {fZSp ccZSp cdZSp : Addr} {odZSp anZSp cldZSp cddZSp : Option Addr} {slZSp cslZSp ccsZSp : Array (Option Value)} {ocZSp kVZSp dcZSp pmZSp ctZSp clZSp cclZSp : Value} {vsZSp : Array Value} {fileZSp : Str} {tfZSp : Tok}
    {fZCr ccZCr cdZCr : Addr} {odZCr anZCr cldZCr cddZCr : Option Addr} {slZCr cslZCr ccsZCr : Array (Option Value)} {ocZCr kVZCr dcZCr pmZCr ctZCr clZCr cclZCr : Value} {vsZCr : Array Value} {fileZCr : Str} {tfZCr : Tok}
    {fZNw ccZNw cdZNw : Addr} {odZNw anZNw cldZNw cddZNw : Option Addr} {slZNw cslZNw ccsZNw : Array (Option Value)} {ocZNw kVZNw dcZNw pmZNw ctZNw clZNw cclZNw : Value} {vsZNw : Array Value} {fileZNw : Str} {tfZNw : Tok}
    {fZQ ccZQ cdZQ : Addr} {odZQ anZQ cldZQ cddZQ : Option Addr} {slZQ cslZQ ccsZQ : Array (Option Value)} {ocZQ kVZQ dcZQ pmZQ ctZQ clZQ cclZQ : Value} {vsZQ : Array Value} {fileZQ : Str} {tfZQ : Tok}
    {fZRe ccZRe cdZRe : Addr} {odZRe anZRe cldZRe cddZRe : Option Addr} {slZRe cslZRe ccsZRe : Array (Option Value)} {ocZRe kVZRe dcZRe pmZRe ctZRe clZRe cclZRe : Value} {vsZRe : Array Value} {fileZRe : Str} {tfZRe : Tok}
    {fZSe ccZSe cdZSe : Addr} {odZSe anZSe cldZSe cddZSe : Option Addr} {slZSe cslZSe ccsZSe : Array (Option Value)} {ocZSe kVZSe dcZSe pmZSe ctZSe clZSe cclZSe : Value} {vsZSe : Array Value} {fileZSe : Str} {tfZSe : Tok}
    {fZCo ccZCo cdZCo : Addr} {odZCo anZCo cldZCo cddZCo : Option Addr} {slZCo cslZCo ccsZCo : Array (Option Value)} {ocZCo kVZCo dcZCo pmZCo ctZCo clZCo cclZCo : Value} {vsZCo : Array Value} {fileZCo : Str} {tfZCo : Tok}
    {fZFe ccZFe cdZFe : Addr} {odZFe anZFe cldZFe cddZFe : Option Addr} {slZFe cslZFe ccsZFe : Array (Option Value)} {ocZFe kVZFe dcZFe pmZFe ctZFe clZFe cclZFe : Value} {vsZFe : Array Value} {fileZFe : Str} {tfZFe : Tok}
    {fZT ccZT cdZT : Addr} {odZT anZT cldZT cddZT : Option Addr} {slZT cslZT ccsZT : Array (Option Value)} {ocZT kVZT dcZT pmZT ctZT clZT cclZT : Value} {vsZT : Array Value} {fileZT : Str} {tfZT : Tok}
    {tMS tMC tMI tMF : Tok}
    {aW : Addr} {odW : Option Addr} {slW : Array (Option Value)} {nW : Nat} {wt0 wt1 wt2 wt3 wt4 wt5 wt6 wt7 wt8 wt9 tSG tSP tMW : Tok}
    {tMCo tMFe : Tok}
    (a1 : @Eq _ (PySem.W.nsIn K mainGlobals "is_integer") (some (some (.ref f1))))
    (l1 : @Eq _ (K.lookup f1) (some ⟨oc1, od1, .func (PySem.W.fnOf "is_integer" "is_integer" (defArgs s_is_integer) (defBody s_is_integer) (defScope s_is_integer) .none kV1 dc1 pm1 an1 cd1 ct1), sl1⟩))
    (c1 : @Eq _ (PySem.W.codeIn K cd1 "is_integer") (true))
    (k1 : @Eq _ (PySem.W.keepIn K (.ref f1)) (true))
    (a2 : @Eq _ (PySem.W.nsIn K mainGlobals "is_within") (some (some (.ref f2))))
    (l2 : @Eq _ (K.lookup f2) (some ⟨oc2, od2, .func (PySem.W.fnOf "is_within" "is_within" (defArgs s_is_within) (defBody s_is_within) (defScope s_is_within) .none kV2 dc2 pm2 an2 cd2 ct2), sl2⟩))
    (c2 : @Eq _ (PySem.W.codeIn K cd2 "is_within") (true))
    (k2 : @Eq _ (PySem.W.keepIn K (.ref f2)) (true))
    (a3 : @Eq _ (PySem.W.nsIn K mainGlobals "is_size") (some (some (.ref f3))))
    (l3 : @Eq _ (K.lookup f3) (some ⟨oc3, od3, .func (PySem.W.fnOf "is_size" "is_size" (defArgs s_is_size) (defBody s_is_size) (defScope s_is_size) .none kV3 dc3 pm3 an3 cd3 ct3), sl3⟩))
    (c3 : @Eq _ (PySem.W.codeIn K cd3 "is_size") (true))
    (k3 : @Eq _ (PySem.W.keepIn K (.ref f3)) (true))
    (a4 : @Eq _ (PySem.W.nsIn K mainGlobals "need_size") (some (some (.ref f4))))
    (l4 : @Eq _ (K.lookup f4) (some ⟨oc4, od4, .func (PySem.W.fnOf "need_size" "need_size" (defArgs s_need_size) (defBody s_need_size) (defScope s_need_size) .none kV4 dc4 pm4 an4 cd4 ct4), sl4⟩))
    (c4 : @Eq _ (PySem.W.codeIn K cd4 "need_size") (true))
    (k4 : @Eq _ (PySem.W.keepIn K (.ref f4)) (true))
    (a5 : @Eq _ (PySem.W.nsIn K mainGlobals "need_few") (some (some (.ref f5))))
    (l5 : @Eq _ (K.lookup f5) (some ⟨oc5, od5, .func (PySem.W.fnOf "need_few" "need_few" (defArgs s_need_few) (defBody s_need_few) (defScope s_need_few) .none kV5 dc5 pm5 an5 cd5 ct5), sl5⟩))
    (c5 : @Eq _ (PySem.W.codeIn K cd5 "need_few") (true))
    (k5 : @Eq _ (PySem.W.keepIn K (.ref f5)) (true))
    (a6 : @Eq _ (PySem.W.nsIn K mainGlobals "ends_of") (some (some (.ref f6))))
    (l6 : @Eq _ (K.lookup f6) (some ⟨oc6, od6, .func (PySem.W.fnOf "ends_of" "ends_of" (defArgs s_ends_of) (defBody s_ends_of) (defScope s_ends_of) .none kV6 dc6 pm6 an6 cd6 ct6), sl6⟩))
    (c6 : @Eq _ (PySem.W.codeIn K cd6 "ends_of") (true))
    (k6 : @Eq _ (PySem.W.keepIn K (.ref f6)) (true))
    (a7 : @Eq _ (PySem.W.nsIn K mainGlobals "is_name") (some (some (.ref f7))))
    (l7 : @Eq _ (K.lookup f7) (some ⟨oc7, od7, .func (PySem.W.fnOf "is_name" "is_name" (defArgs s_is_name) (defBody s_is_name) (defScope s_is_name) .none kV7 dc7 pm7 an7 cd7 ct7), sl7⟩))
    (c7 : @Eq _ (PySem.W.codeIn K cd7 "is_name") (true))
    (k7 : @Eq _ (PySem.W.keepIn K (.ref f7)) (true))
    (a8 : @Eq _ (PySem.W.nsIn K mainGlobals "is_speed") (some (some (.ref f8))))
    (l8 : @Eq _ (K.lookup f8) (some ⟨oc8, od8, .func (PySem.W.fnOf "is_speed" "is_speed" (defArgs s_is_speed) (defBody s_is_speed) (defScope s_is_speed) .none kV8 dc8 pm8 an8 cd8 ct8), sl8⟩))
    (c8 : @Eq _ (PySem.W.codeIn K cd8 "is_speed") (true))
    (k8 : @Eq _ (PySem.W.keepIn K (.ref f8)) (true))
    (a9 : @Eq _ (PySem.W.nsIn K mainGlobals "need_speed") (some (some (.ref f9))))
    (l9 : @Eq _ (K.lookup f9) (some ⟨oc9, od9, .func (PySem.W.fnOf "need_speed" "need_speed" (defArgs s_need_speed) (defBody s_need_speed) (defScope s_need_speed) .none kV9 dc9 pm9 an9 cd9 ct9), sl9⟩))
    (c9 : @Eq _ (PySem.W.codeIn K cd9 "need_speed") (true))
    (k9 : @Eq _ (PySem.W.keepIn K (.ref f9)) (true))
    (a10 : @Eq _ (PySem.W.nsIn K mainGlobals "need_speeds") (some (some (.ref f10))))
    (l10 : @Eq _ (K.lookup f10) (some ⟨oc10, od10, .func (PySem.W.fnOf "need_speeds" "need_speeds" (defArgs s_need_speeds) (defBody s_need_speeds) (defScope s_need_speeds) .none kV10 dc10 pm10 an10 cd10 ct10), sl10⟩))
    (c10 : @Eq _ (PySem.W.codeIn K cd10 "need_speeds") (true))
    (k10 : @Eq _ (PySem.W.keepIn K (.ref f10)) (true))
    (a11 : @Eq _ (PySem.W.nsIn K mainGlobals "first_with") (some (some (.ref f11))))
    (l11 : @Eq _ (K.lookup f11) (some ⟨oc11, od11, .func (PySem.W.fnOf "first_with" "first_with" (defArgs s_first_with) (defBody s_first_with) (defScope s_first_with) .none kV11 dc11 pm11 an11 cd11 ct11), sl11⟩))
    (c11 : @Eq _ (PySem.W.codeIn K cd11 "first_with") (true))
    (k11 : @Eq _ (PySem.W.keepIn K (.ref f11)) (true))
    (a12 : @Eq _ (PySem.W.nsIn K mainGlobals "common") (some (some (.ref f12))))
    (l12 : @Eq _ (K.lookup f12) (some ⟨oc12, od12, .func (PySem.W.fnOf "common" "common" (defArgs s_common) (defBody s_common) (defScope s_common) .none kV12 dc12 pm12 an12 cd12 ct12), sl12⟩))
    (c12 : @Eq _ (PySem.W.codeIn K cd12 "common") (true))
    (k12 : @Eq _ (PySem.W.keepIn K (.ref f12)) (true))
    (a13 : @Eq _ (PySem.W.nsIn K mainGlobals "told_of") (some (some (.ref f13))))
    (l13 : @Eq _ (K.lookup f13) (some ⟨oc13, od13, .func (PySem.W.fnOf "told_of" "told_of" (defArgs s_told_of) (defBody s_told_of) (defScope s_told_of) .none kV13 dc13 pm13 an13 cd13 ct13), sl13⟩))
    (c13 : @Eq _ (PySem.W.codeIn K cd13 "told_of") (true))
    (k13 : @Eq _ (PySem.W.keepIn K (.ref f13)) (true))
    (a14 : @Eq _ (PySem.W.nsIn K mainGlobals "need_spot") (some (some (.ref f14))))
    (l14 : @Eq _ (K.lookup f14) (some ⟨oc14, od14, .func (PySem.W.fnOf "need_spot" "need_spot" (defArgs s_need_spot) (defBody s_need_spot) (defScope s_need_spot) .none kV14 dc14 pm14 an14 cd14 ct14), sl14⟩))
    (c14 : @Eq _ (PySem.W.codeIn K cd14 "need_spot") (true))
    (k14 : @Eq _ (PySem.W.keepIn K (.ref f14)) (true))
    (a15 : @Eq _ (PySem.W.nsIn K mainGlobals "need_list") (some (some (.ref f15))))
    (l15 : @Eq _ (K.lookup f15) (some ⟨oc15, od15, .func (PySem.W.fnOf "need_list" "need_list" (defArgs s_need_list) (defBody s_need_list) (defScope s_need_list) .none kV15 dc15 pm15 an15 cd15 ct15), sl15⟩))
    (c15 : @Eq _ (PySem.W.codeIn K cd15 "need_list") (true))
    (k15 : @Eq _ (PySem.W.keepIn K (.ref f15)) (true))
    (a16 : @Eq _ (PySem.W.nsIn K mainGlobals "rows_of") (some (some (.ref f16))))
    (l16 : @Eq _ (K.lookup f16) (some ⟨oc16, od16, .func (PySem.W.fnOf "rows_of" "rows_of" (defArgs s_rows_of) (defBody s_rows_of) (defScope s_rows_of) .none kV16 dc16 pm16 an16 cd16 ct16), sl16⟩))
    (c16 : @Eq _ (PySem.W.codeIn K cd16 "rows_of") (true))
    (k16 : @Eq _ (PySem.W.keepIn K (.ref f16)) (true))
    (a17 : @Eq _ (PySem.W.nsIn K mainGlobals "place_of_greatest") (some (some (.ref f17))))
    (l17 : @Eq _ (K.lookup f17) (some ⟨oc17, od17, .func (PySem.W.fnOf "place_of_greatest" "place_of_greatest" (defArgs s_place_of_greatest) (defBody s_place_of_greatest) (defScope s_place_of_greatest) .none kV17 dc17 pm17 an17 cd17 ct17), sl17⟩))
    (c17 : @Eq _ (PySem.W.codeIn K cd17 "place_of_greatest") (true))
    (k17 : @Eq _ (PySem.W.keepIn K (.ref f17)) (true))
    (a18 : @Eq _ (PySem.W.nsIn K mainGlobals "lateness") (some (some (.ref f18))))
    (l18 : @Eq _ (K.lookup f18) (some ⟨oc18, od18, .func (PySem.W.fnOf "lateness" "lateness" (defArgs s_lateness) (defBody s_lateness) (defScope s_lateness) .none kV18 dc18 pm18 an18 cd18 ct18), sl18⟩))
    (c18 : @Eq _ (PySem.W.codeIn K cd18 "lateness") (true))
    (k18 : @Eq _ (PySem.W.keepIn K (.ref f18)) (true))
    (a19 : @Eq _ (PySem.W.nsIn K mainGlobals "_law_pen") (some (some (.ref f19))))
    (l19 : @Eq _ (K.lookup f19) (some ⟨oc19, od19, .func (PySem.W.fnOf "_law_pen" "_law_pen" (defArgs s__law_pen) (defBody s__law_pen) (defScope s__law_pen) .none kV19 dc19 pm19 an19 cd19 ct19), sl19⟩))
    (c19 : @Eq _ (PySem.W.codeIn K cd19 "_law_pen") (true))
    (k19 : @Eq _ (PySem.W.keepIn K (.ref f19)) (true))
    (a20 : @Eq _ (PySem.W.nsIn K mainGlobals "_law_draw") (some (some (.ref f20))))
    (l20 : @Eq _ (K.lookup f20) (some ⟨oc20, od20, .func (PySem.W.fnOf "_law_draw" "_law_draw" (defArgs s__law_draw) (defBody s__law_draw) (defScope s__law_draw) .none kV20 dc20 pm20 an20 cd20 ct20), sl20⟩))
    (c20 : @Eq _ (PySem.W.codeIn K cd20 "_law_draw") (true))
    (k20 : @Eq _ (PySem.W.keepIn K (.ref f20)) (true))
    (a21 : @Eq _ (PySem.W.nsIn K mainGlobals "_law_pick") (some (some (.ref f21))))
    (l21 : @Eq _ (K.lookup f21) (some ⟨oc21, od21, .func (PySem.W.fnOf "_law_pick" "_law_pick" (defArgs s__law_pick) (defBody s__law_pick) (defScope s__law_pick) .none kV21 dc21 pm21 an21 cd21 ct21), sl21⟩))
    (c21 : @Eq _ (PySem.W.codeIn K cd21 "_law_pick") (true))
    (k21 : @Eq _ (PySem.W.keepIn K (.ref f21)) (true))
    (a22 : @Eq _ (PySem.W.nsIn K mainGlobals "_law_setting") (some (some (.ref f22))))
    (l22 : @Eq _ (K.lookup f22) (some ⟨oc22, od22, .func (PySem.W.fnOf "_law_setting" "_law_setting" (defArgs s__law_setting) (defBody s__law_setting) (defScope s__law_setting) .none kV22 dc22 pm22 an22 cd22 ct22), sl22⟩))
    (c22 : @Eq _ (PySem.W.codeIn K cd22 "_law_setting") (true))
    (k22 : @Eq _ (PySem.W.keepIn K (.ref f22)) (true))
    (a23 : @Eq _ (PySem.W.nsIn K mainGlobals "_law_common") (some (some (.ref f23))))
    (l23 : @Eq _ (K.lookup f23) (some ⟨oc23, od23, .func (PySem.W.fnOf "_law_common" "_law_common" (defArgs s__law_common) (defBody s__law_common) (defScope s__law_common) .none kV23 dc23 pm23 an23 cd23 ct23), sl23⟩))
    (c23 : @Eq _ (PySem.W.codeIn K cd23 "_law_common") (true))
    (k23 : @Eq _ (PySem.W.keepIn K (.ref f23)) (true))
    (a24 : @Eq _ (PySem.W.nsIn K mainGlobals "_law_offered") (some (some (.ref f24))))
    (l24 : @Eq _ (K.lookup f24) (some ⟨oc24, od24, .func (PySem.W.fnOf "_law_offered" "_law_offered" (defArgs s__law_offered) (defBody s__law_offered) (defScope s__law_offered) .none kV24 dc24 pm24 an24 cd24 ct24), sl24⟩))
    (c24 : @Eq _ (PySem.W.codeIn K cd24 "_law_offered") (true))
    (k24 : @Eq _ (PySem.W.keepIn K (.ref f24)) (true))
    (a25 : @Eq _ (PySem.W.nsIn K mainGlobals "_law_played") (some (some (.ref f25))))
    (l25 : @Eq _ (K.lookup f25) (some ⟨oc25, od25, .func (PySem.W.fnOf "_law_played" "_law_played" (defArgs s__law_played) (defBody s__law_played) (defScope s__law_played) .none kV25 dc25 pm25 an25 cd25 ct25), sl25⟩))
    (c25 : @Eq _ (PySem.W.codeIn K cd25 "_law_played") (true))
    (k25 : @Eq _ (PySem.W.keepIn K (.ref f25)) (true))
    (a26 : @Eq _ (PySem.W.nsIn K mainGlobals "_law_is_later") (some (some (.ref f26))))
    (l26 : @Eq _ (K.lookup f26) (some ⟨oc26, od26, .func (PySem.W.fnOf "_law_is_later" "_law_is_later" (defArgs s__law_is_later) (defBody s__law_is_later) (defScope s__law_is_later) .none kV26 dc26 pm26 an26 cd26 ct26), sl26⟩))
    (c26 : @Eq _ (PySem.W.codeIn K cd26 "_law_is_later") (true))
    (k26 : @Eq _ (PySem.W.keepIn K (.ref f26)) (true))
    (a27 : @Eq _ (PySem.W.nsIn K mainGlobals "_law_all_costs") (some (some (.ref f27))))
    (l27 : @Eq _ (K.lookup f27) (some ⟨oc27, od27, .func (PySem.W.fnOf "_law_all_costs" "_law_all_costs" (defArgs s__law_all_costs) (defBody s__law_all_costs) (defScope s__law_all_costs) .none kV27 dc27 pm27 an27 cd27 ct27), sl27⟩))
    (c27 : @Eq _ (PySem.W.codeIn K cd27 "_law_all_costs") (true))
    (k27 : @Eq _ (PySem.W.keepIn K (.ref f27)) (true))
    (a28 : @Eq _ (PySem.W.nsIn K mainGlobals "_law_worst") (some (some (.ref f28))))
    (l28 : @Eq _ (K.lookup f28) (some ⟨oc28, od28, .func (PySem.W.fnOf "_law_worst" "_law_worst" (defArgs s__law_worst) (defBody s__law_worst) (defScope s__law_worst) .none kV28 dc28 pm28 an28 cd28 ct28), sl28⟩))
    (c28 : @Eq _ (PySem.W.codeIn K cd28 "_law_worst") (true))
    (k28 : @Eq _ (PySem.W.keepIn K (.ref f28)) (true))
    (a29 : @Eq _ (PySem.W.nsIn K mainGlobals "_law_right") (some (some (.ref f29))))
    (l29 : @Eq _ (K.lookup f29) (some ⟨oc29, od29, .func (PySem.W.fnOf "_law_right" "_law_right" (defArgs s__law_right) (defBody s__law_right) (defScope s__law_right) .none kV29 dc29 pm29 an29 cd29 ct29), sl29⟩))
    (c29 : @Eq _ (PySem.W.codeIn K cd29 "_law_right") (true))
    (k29 : @Eq _ (PySem.W.keepIn K (.ref f29)) (true))
    (a30 : @Eq _ (PySem.W.nsIn K mainGlobals "law") (some (some (.ref f30))))
    (l30 : @Eq _ (K.lookup f30) (some ⟨oc30, od30, .func (PySem.W.fnOf "law" "law" (defArgs s_law) (defBody s_law) (defScope s_law) .none kV30 dc30 pm30 an30 cd30 ct30), sl30⟩))
    (c30 : @Eq _ (PySem.W.codeIn K cd30 "law") (true))
    (k30 : @Eq _ (PySem.W.keepIn K (.ref f30)) (true))
    (a_CK : @Eq _ (PySem.W.nsIn K mainGlobals "Chunks") (some (some (.ref CK))))
    (a_CK___init__ : @Eq _ (PySem.W.findIn K (.ref CK) "__init__") (some (some (.ref g_CK___init__))))
    (l_CK___init__ : @Eq _ (K.lookup g_CK___init__) (some ⟨oc_CK___init__, od_CK___init__, .func (PySem.W.fnOf "__init__" "Chunks.__init__" (defArgs s_Chunks___init__) (defBody s_Chunks___init__) (defScope s_Chunks___init__) .none kV_CK___init__ dc_CK___init__ pm_CK___init__ an_CK___init__ cd_CK___init__ ct_CK___init__), sl_CK___init__⟩))
    (c_CK___init__ : @Eq _ (PySem.W.codeIn K cd_CK___init__ "Chunks.__init__") (true))
    (k_CK___init__ : @Eq _ (PySem.W.keepIn K (.ref g_CK___init__)) (true))
    (i_CK___init__ : @Eq _ (PySem.W.isFn K (.ref g_CK___init__)) (true))
    (mk_CK : @Eq _ (PySem.W.makesIn K CK) (true))
    (pg_CK : @Eq _ (PySem.W.plainGet K CK Str.empty) (true))
    (hd_CK : @Eq _ (PySem.W.hasDictIn K CK) (true))
    (po_CK : @Eq _ (PySem.W.plainOver K CK) (true))
    (sa_CK : @Eq _ (PySem.W.findIn K (.ref CK) "__setattr__") (some (some (.builtin "object.__setattr__"))))
    (kc_CK : @Eq _ (PySem.W.keepIn K (.ref CK)) (true))
    (ya_CK : @Eq _ (PySem.W.findIn K (.ref CK) "__class__") (some (some (.builtin "object.__class__"))))
    (yb : @Eq _ (PySem.W.specialIn K (.builtin "object.__class__") "__get__") (some (some (.builtin "getset_descriptor.__get__"))))
    (yc : @Eq _ (PySem.W.takesIn K (.builtin "object.__class__")) (some true))
    (yd_CK : @Eq _ (PySem.W.mroIn K CK (.type "object")) (some true))
    (yk_CK : @Eq _ (PySem.W.kitOne K (.ref CK) (.ref CK)) (some true))
    (n_CK_sizes : @Eq _ (PySem.W.findIn K (.ref CK) "sizes") (some none))
    (n_CK_ends : @Eq _ (PySem.W.findIn K (.ref CK) "ends") (some none))
    (n_CK_total : @Eq _ (PySem.W.findIn K (.ref CK) "total") (some none))
    (n_CK_rests : @Eq _ (PySem.W.findIn K (.ref CK) "rests") (some none))
    (cf1_CK : @Eq _ ((numTys.all fun T => PySem.W.notFirst K CK (.type T))) (true))
    (cf2_CK : @Eq _ (PySem.W.notFirst K CK (.ref CK)) (true))
    (cf3_CK : @Eq _ ((numTys.all fun T => decide (PySem.W.subIn K (.ref CK) (.type T) = some false))) (true))
    (cf5_CK : @Eq _ (PySem.W.findIn K (.ref CK) "__ne__") (some (some (.builtin "object.__ne__"))))
    (sr_CK : @Eq _ (PySem.W.readsIn K CK (.type "type")) (true))
    (sg_CK : @Eq _ (PySem.W.specialIn K (.ref CK) "__getattribute__") (some (some (.builtin "type.__getattribute__"))))
    (sf_CK_of : @Eq _ (PySem.W.findCls K (.ref CK) (.type "type") "of") (some (.get (.builtin "staticmethod.__get__") (.ref p_CK_of) .none (.ref CK))))
    (sc_CK_of : @Eq _ (PySem.W.recIn K p_CK_of "staticmethod") (some (.ref g_CK_of :: rest_CK_of)))
    (l_CK_of : @Eq _ (K.lookup g_CK_of) (some ⟨oc_CK_of, od_CK_of, .func (PySem.W.fnOf "of" "Chunks.of" (defArgs s_Chunks_of) (defBody s_Chunks_of) (defScope s_Chunks_of) .none kV_CK_of dc_CK_of pm_CK_of an_CK_of cd_CK_of ct_CK_of), sl_CK_of⟩))
    (c_CK_of : @Eq _ (PySem.W.codeIn K cd_CK_of "Chunks.of") (true))
    (k_CK_of : @Eq _ (PySem.W.keepIn K (.ref g_CK_of)) (true))
    (a_CW : @Eq _ (PySem.W.nsIn K mainGlobals "Crew") (some (some (.ref CW))))
    (a_CW___init__ : @Eq _ (PySem.W.findIn K (.ref CW) "__init__") (some (some (.ref g_CW___init__))))
    (l_CW___init__ : @Eq _ (K.lookup g_CW___init__) (some ⟨oc_CW___init__, od_CW___init__, .func (PySem.W.fnOf "__init__" "Crew.__init__" (defArgs s_Crew___init__) (defBody s_Crew___init__) (defScope s_Crew___init__) .none kV_CW___init__ dc_CW___init__ pm_CW___init__ an_CW___init__ cd_CW___init__ ct_CW___init__), sl_CW___init__⟩))
    (c_CW___init__ : @Eq _ (PySem.W.codeIn K cd_CW___init__ "Crew.__init__") (true))
    (k_CW___init__ : @Eq _ (PySem.W.keepIn K (.ref g_CW___init__)) (true))
    (i_CW___init__ : @Eq _ (PySem.W.isFn K (.ref g_CW___init__)) (true))
    (a_CW___contains__ : @Eq _ (PySem.W.findIn K (.ref CW) "__contains__") (some (some (.ref g_CW___contains__))))
    (l_CW___contains__ : @Eq _ (K.lookup g_CW___contains__) (some ⟨oc_CW___contains__, od_CW___contains__, .func (PySem.W.fnOf "__contains__" "Crew.__contains__" (defArgs s_Crew___contains__) (defBody s_Crew___contains__) (defScope s_Crew___contains__) .none kV_CW___contains__ dc_CW___contains__ pm_CW___contains__ an_CW___contains__ cd_CW___contains__ ct_CW___contains__), sl_CW___contains__⟩))
    (c_CW___contains__ : @Eq _ (PySem.W.codeIn K cd_CW___contains__ "Crew.__contains__") (true))
    (k_CW___contains__ : @Eq _ (PySem.W.keepIn K (.ref g_CW___contains__)) (true))
    (i_CW___contains__ : @Eq _ (PySem.W.isFn K (.ref g_CW___contains__)) (true))
    (a_CW___getitem__ : @Eq _ (PySem.W.findIn K (.ref CW) "__getitem__") (some (some (.ref g_CW___getitem__))))
    (l_CW___getitem__ : @Eq _ (K.lookup g_CW___getitem__) (some ⟨oc_CW___getitem__, od_CW___getitem__, .func (PySem.W.fnOf "__getitem__" "Crew.__getitem__" (defArgs s_Crew___getitem__) (defBody s_Crew___getitem__) (defScope s_Crew___getitem__) .none kV_CW___getitem__ dc_CW___getitem__ pm_CW___getitem__ an_CW___getitem__ cd_CW___getitem__ ct_CW___getitem__), sl_CW___getitem__⟩))
    (c_CW___getitem__ : @Eq _ (PySem.W.codeIn K cd_CW___getitem__ "Crew.__getitem__") (true))
    (k_CW___getitem__ : @Eq _ (PySem.W.keepIn K (.ref g_CW___getitem__)) (true))
    (i_CW___getitem__ : @Eq _ (PySem.W.isFn K (.ref g_CW___getitem__)) (true))
    (mk_CW : @Eq _ (PySem.W.makesIn K CW) (true))
    (pg_CW : @Eq _ (PySem.W.plainGet K CW Str.empty) (true))
    (hd_CW : @Eq _ (PySem.W.hasDictIn K CW) (true))
    (po_CW : @Eq _ (PySem.W.plainOver K CW) (true))
    (sa_CW : @Eq _ (PySem.W.findIn K (.ref CW) "__setattr__") (some (some (.builtin "object.__setattr__"))))
    (kc_CW : @Eq _ (PySem.W.keepIn K (.ref CW)) (true))
    (ya_CW : @Eq _ (PySem.W.findIn K (.ref CW) "__class__") (some (some (.builtin "object.__class__"))))
    (yd_CW : @Eq _ (PySem.W.mroIn K CW (.type "object")) (some true))
    (yk_CW : @Eq _ (PySem.W.kitOne K (.ref CW) (.ref CW)) (some true))
    (n_CW_own_speeds : @Eq _ (PySem.W.findIn K (.ref CW) "own_speeds") (some none))
    (n_CW_workers : @Eq _ (PySem.W.findIn K (.ref CW) "workers") (some none))
    (n_CW_speed : @Eq _ (PySem.W.findIn K (.ref CW) "speed") (some none))
    (n_CW_slowest : @Eq _ (PySem.W.findIn K (.ref CW) "slowest") (some none))
    (n_CW_fastest : @Eq _ (PySem.W.findIn K (.ref CW) "fastest") (some none))
    (sr_CW : @Eq _ (PySem.W.readsIn K CW (.type "type")) (true))
    (sg_CW : @Eq _ (PySem.W.specialIn K (.ref CW) "__getattribute__") (some (some (.builtin "type.__getattribute__"))))
    (sf_CW_of : @Eq _ (PySem.W.findCls K (.ref CW) (.type "type") "of") (some (.get (.builtin "staticmethod.__get__") (.ref p_CW_of) .none (.ref CW))))
    (sc_CW_of : @Eq _ (PySem.W.recIn K p_CW_of "staticmethod") (some (.ref g_CW_of :: rest_CW_of)))
    (l_CW_of : @Eq _ (K.lookup g_CW_of) (some ⟨oc_CW_of, od_CW_of, .func (PySem.W.fnOf "of" "Crew.of" (defArgs s_Crew_of) (defBody s_Crew_of) (defScope s_Crew_of) .none kV_CW_of dc_CW_of pm_CW_of an_CW_of cd_CW_of ct_CW_of), sl_CW_of⟩))
    (c_CW_of : @Eq _ (PySem.W.codeIn K cd_CW_of "Crew.of") (true))
    (k_CW_of : @Eq _ (PySem.W.keepIn K (.ref g_CW_of)) (true))
    (mk_CS : @Eq _ (PySem.W.makesIn K CS) (true))
    (a_CS : @Eq _ (PySem.W.nsIn K mainGlobals "Setting") (some (some (.ref CS))))
    (a_CS_late_of : @Eq _ (PySem.W.findIn K (.ref CS) "late_of") (some (some (.ref g_CS_late_of))))
    (l_CS_late_of : @Eq _ (K.lookup g_CS_late_of) (some ⟨oc_CS_late_of, od_CS_late_of, .func (PySem.W.fnOf "late_of" "Setting.late_of" (defArgs s_Setting_late_of) (defBody s_Setting_late_of) (defScope s_Setting_late_of) .none kV_CS_late_of dc_CS_late_of pm_CS_late_of an_CS_late_of cd_CS_late_of ct_CS_late_of), sl_CS_late_of⟩))
    (c_CS_late_of : @Eq _ (PySem.W.codeIn K cd_CS_late_of "Setting.late_of") (true))
    (k_CS_late_of : @Eq _ (PySem.W.keepIn K (.ref g_CS_late_of)) (true))
    (i_CS_late_of : @Eq _ (PySem.W.isFn K (.ref g_CS_late_of)) (true))
    (pg_CS : @Eq _ (PySem.W.plainGet K CS Str.empty) (true))
    (hd_CS : @Eq _ (PySem.W.hasDictIn K CS) (true))
    (po_CS : @Eq _ (PySem.W.plainOver K CS) (true))
    (sa_CS : @Eq _ (PySem.W.findIn K (.ref CS) "__setattr__") (some (some (.builtin "object.__setattr__"))))
    (kc_CS : @Eq _ (PySem.W.keepIn K (.ref CS)) (true))
    (ya_CS : @Eq _ (PySem.W.findIn K (.ref CS) "__class__") (some (some (.builtin "object.__class__"))))
    (yd_CS : @Eq _ (PySem.W.mroIn K CS (.type "object")) (some true))
    (yk_CS : @Eq _ (PySem.W.kitOne K (.ref CS) (.ref CS)) (some true))
    (n_CS_crew : @Eq _ (PySem.W.findIn K (.ref CS) "crew") (some none))
    (n_CS_least : @Eq _ (PySem.W.findIn K (.ref CS) "least") (some none))
    (n_CS_most : @Eq _ (PySem.W.findIn K (.ref CS) "most") (some none))
    (n_CS_fee : @Eq _ (PySem.W.findIn K (.ref CS) "fee") (some none))
    (n_CS_own_slow : @Eq _ (PySem.W.findIn K (.ref CS) "own_slow") (some none))
    (n_CS_own_fast : @Eq _ (PySem.W.findIn K (.ref CS) "own_fast") (some none))
    (n_CS_lowest : @Eq _ (PySem.W.findIn K (.ref CS) "lowest") (some none))
    (mk_CQ : @Eq _ (PySem.W.makesIn K CQ) (true))
    (a_CQ : @Eq _ (PySem.W.nsIn K mainGlobals "Ratio") (some (some (.ref CQ))))
    (a_CQ___add__ : @Eq _ (PySem.W.findIn K (.ref CQ) "__add__") (some (some (.ref g_CQ___add__))))
    (l_CQ___add__ : @Eq _ (K.lookup g_CQ___add__) (some ⟨oc_CQ___add__, od_CQ___add__, .func (PySem.W.fnOf "__add__" "Ratio.__add__" (defArgs s_Ratio___add__) (defBody s_Ratio___add__) (defScope s_Ratio___add__) .none kV_CQ___add__ dc_CQ___add__ pm_CQ___add__ an_CQ___add__ cd_CQ___add__ ct_CQ___add__), sl_CQ___add__⟩))
    (c_CQ___add__ : @Eq _ (PySem.W.codeIn K cd_CQ___add__ "Ratio.__add__") (true))
    (k_CQ___add__ : @Eq _ (PySem.W.keepIn K (.ref g_CQ___add__)) (true))
    (i_CQ___add__ : @Eq _ (PySem.W.isFn K (.ref g_CQ___add__)) (true))
    (a_CQ___radd__ : @Eq _ (PySem.W.findIn K (.ref CQ) "__radd__") (some (some (.ref g_CQ___radd__))))
    (l_CQ___radd__ : @Eq _ (K.lookup g_CQ___radd__) (some ⟨oc_CQ___radd__, od_CQ___radd__, .func (PySem.W.fnOf "__radd__" "Ratio.__radd__" (defArgs s_Ratio___radd__) (defBody s_Ratio___radd__) (defScope s_Ratio___radd__) .none kV_CQ___radd__ dc_CQ___radd__ pm_CQ___radd__ an_CQ___radd__ cd_CQ___radd__ ct_CQ___radd__), sl_CQ___radd__⟩))
    (c_CQ___radd__ : @Eq _ (PySem.W.codeIn K cd_CQ___radd__ "Ratio.__radd__") (true))
    (k_CQ___radd__ : @Eq _ (PySem.W.keepIn K (.ref g_CQ___radd__)) (true))
    (i_CQ___radd__ : @Eq _ (PySem.W.isFn K (.ref g_CQ___radd__)) (true))
    (a_CQ___lt__ : @Eq _ (PySem.W.findIn K (.ref CQ) "__lt__") (some (some (.ref g_CQ___lt__))))
    (l_CQ___lt__ : @Eq _ (K.lookup g_CQ___lt__) (some ⟨oc_CQ___lt__, od_CQ___lt__, .func (PySem.W.fnOf "__lt__" "Ratio.__lt__" (defArgs s_Ratio___lt__) (defBody s_Ratio___lt__) (defScope s_Ratio___lt__) .none kV_CQ___lt__ dc_CQ___lt__ pm_CQ___lt__ an_CQ___lt__ cd_CQ___lt__ ct_CQ___lt__), sl_CQ___lt__⟩))
    (c_CQ___lt__ : @Eq _ (PySem.W.codeIn K cd_CQ___lt__ "Ratio.__lt__") (true))
    (k_CQ___lt__ : @Eq _ (PySem.W.keepIn K (.ref g_CQ___lt__)) (true))
    (i_CQ___lt__ : @Eq _ (PySem.W.isFn K (.ref g_CQ___lt__)) (true))
    (a_CQ___gt__ : @Eq _ (PySem.W.findIn K (.ref CQ) "__gt__") (some (some (.ref g_CQ___gt__))))
    (l_CQ___gt__ : @Eq _ (K.lookup g_CQ___gt__) (some ⟨oc_CQ___gt__, od_CQ___gt__, .func (PySem.W.fnOf "__gt__" "Ratio.__gt__" (defArgs s_Ratio___gt__) (defBody s_Ratio___gt__) (defScope s_Ratio___gt__) .none kV_CQ___gt__ dc_CQ___gt__ pm_CQ___gt__ an_CQ___gt__ cd_CQ___gt__ ct_CQ___gt__), sl_CQ___gt__⟩))
    (c_CQ___gt__ : @Eq _ (PySem.W.codeIn K cd_CQ___gt__ "Ratio.__gt__") (true))
    (k_CQ___gt__ : @Eq _ (PySem.W.keepIn K (.ref g_CQ___gt__)) (true))
    (i_CQ___gt__ : @Eq _ (PySem.W.isFn K (.ref g_CQ___gt__)) (true))
    (pg_CQ : @Eq _ (PySem.W.plainGet K CQ Str.empty) (true))
    (hd_CQ : @Eq _ (PySem.W.hasDictIn K CQ) (true))
    (po_CQ : @Eq _ (PySem.W.plainOver K CQ) (true))
    (sa_CQ : @Eq _ (PySem.W.findIn K (.ref CQ) "__setattr__") (some (some (.builtin "object.__setattr__"))))
    (kc_CQ : @Eq _ (PySem.W.keepIn K (.ref CQ)) (true))
    (ya_CQ : @Eq _ (PySem.W.findIn K (.ref CQ) "__class__") (some (some (.builtin "object.__class__"))))
    (yd_CQ : @Eq _ (PySem.W.mroIn K CQ (.type "object")) (some true))
    (yk_CQ : @Eq _ (PySem.W.kitOne K (.ref CQ) (.ref CQ)) (some true))
    (n_CQ_over : @Eq _ (PySem.W.findIn K (.ref CQ) "over") (some none))
    (n_CQ_under : @Eq _ (PySem.W.findIn K (.ref CQ) "under") (some none))
    (cf1_CQ : @Eq _ ((numTys.all fun T => PySem.W.notFirst K CQ (.type T))) (true))
    (cf2_CQ : @Eq _ (PySem.W.notFirst K CQ (.ref CQ)) (true))
    (cf3_CQ : @Eq _ ((numTys.all fun T => decide (PySem.W.subIn K (.ref CQ) (.type T) = some false))) (true))
    (cf5_CQ : @Eq _ (PySem.W.findIn K (.ref CQ) "__ne__") (some (some (.builtin "object.__ne__"))))
    (a_CS___init__ : @Eq _ (PySem.W.findIn K (.ref CS) "__init__") (some (some (.ref g_CS___init__))))
    (l_CS___init__ : @Eq _ (K.lookup g_CS___init__) (some ⟨oc_CS___init__, od_CS___init__, .func (PySem.W.fnOf "__init__" "Setting.__init__" (defArgs s_Setting___init__) (defBody s_Setting___init__) (defScope s_Setting___init__) (.ref T_CS___init__) kV_CS___init__ dc_CS___init__ pm_CS___init__ an_CS___init__ cd_CS___init__ ct_CS___init__), sl_CS___init__⟩))
    (c_CS___init__ : @Eq _ (PySem.W.codeIn K cd_CS___init__ "Setting.__init__") (true))
    (k_CS___init__ : @Eq _ (PySem.W.keepIn K (.ref g_CS___init__)) (true))
    (i_CS___init__ : @Eq _ (PySem.W.isFn K (.ref g_CS___init__)) (true))
    (lT_CS___init__ : @Eq _ (K.lookup T_CS___init__) (some ⟨ocT_CS___init__, odT_CS___init__, .seq #[.int 1 t_CS___init__0, .int 1 t_CS___init__1, .int 0 t_CS___init__2] nT_CS___init__, slT_CS___init__⟩))
    (a_CQ___init__ : @Eq _ (PySem.W.findIn K (.ref CQ) "__init__") (some (some (.ref g_CQ___init__))))
    (l_CQ___init__ : @Eq _ (K.lookup g_CQ___init__) (some ⟨oc_CQ___init__, od_CQ___init__, .func (PySem.W.fnOf "__init__" "Ratio.__init__" (defArgs s_Ratio___init__) (defBody s_Ratio___init__) (defScope s_Ratio___init__) (.ref T_CQ___init__) kV_CQ___init__ dc_CQ___init__ pm_CQ___init__ an_CQ___init__ cd_CQ___init__ ct_CQ___init__), sl_CQ___init__⟩))
    (c_CQ___init__ : @Eq _ (PySem.W.codeIn K cd_CQ___init__ "Ratio.__init__") (true))
    (k_CQ___init__ : @Eq _ (PySem.W.keepIn K (.ref g_CQ___init__)) (true))
    (i_CQ___init__ : @Eq _ (PySem.W.isFn K (.ref g_CQ___init__)) (true))
    (lT_CQ___init__ : @Eq _ (K.lookup T_CQ___init__) (some ⟨ocT_CQ___init__, odT_CQ___init__, .seq #[.int 1 t_CQ___init__0] nT_CQ___init__, slT_CQ___init__⟩))
    (a_CL : @Eq _ (PySem.W.nsIn K mainGlobals "LateError") (some (some (.ref CL))))
    (aZB : @Eq _ (PySem.W.nsIn K mainGlobals "BadSize") (some (some (.ref CB))))
    (iZB : @Eq _ (PySem.W.findIn K (.ref CB) "__init__") (some (some (.ref fZB))))
    (tZB : @Eq _ (PySem.W.typeIn K (.ref fZB)) (some (.type "function")))
    (lZB : @Eq _ (K.lookup fZB) (some ⟨ocZB, odZB, .func (PySem.W.fnX "__init__" "BadSize.__init__" (defArgs s_BadSize___init__) (defBody s_BadSize___init__) (defScope s_BadSize___init__) [("__class__", ccZB)] .none kVZB dcZB pmZB anZB (.ref cdZB) ctZB), slZB⟩))
    (cZB : @Eq _ (PySem.W.codeIn K (.ref cdZB) "BadSize.__init__") (true))
    (eZB : exD K CB)
    (sZB : @Eq _ (PySem.W.findIn K (.ref CB) "__setattr__") (some (some (.builtin "object.__setattr__"))))
    (xZB : @Eq _ (PySem.W.subIn K (.ref CB) (.type "BaseException")) (some true))
    (yZB : @Eq _ (PySem.W.typeIn K (.ref CB)) (some (.type "type")))
    (kZB : @Eq _ (PySem.W.keepIn K (.ref CB)) (true))
    (qZB : @Eq _ (K.lookup ccZB) (some ⟨clZB, cldZB, .cell (some (.ref CB)), cslZB⟩))
    (uZB : @Eq _ (K.lookup cdZB) (some ⟨cclZB, cddZB, .fields vsZB, ccsZB⟩))
    (vZB : v2D vsZB fileZB tfZB)
    (wZB : w2D l fileZB)
    (mZB : @Eq _ (PySem.W.mroIn K CB (.ref CB)) (some true))
    (pZB : @Eq _ (PySem.W.ks_superIn K CB CB "__init__") (some (some (.builtin "ValueError.__init__"))))
    (bZB : @Eq _ (PySem.W.subIn K (.ref CB) (.type "ValueError")) (some true))
    (zS : @Eq _ (PySem.W.nsIn K mainGlobals "super") (some none))
    (tS : @Eq _ ((l.prog.main.scope.names.lookup ("super" : Str)).isSome) (false))
    (oB : @Eq _ (PySem.W.nsIn K cStatics "thirdparty.any") (some none))
    (nZB_value : @Eq _ (PySem.W.findIn K (.ref CB) "value") (some none))
    (gZB : @Eq _ (PySem.W.findIn K (.ref CB) "__getattribute__") (some (some (.builtin "BaseException.__getattribute__"))))
    (hZB : @Eq _ (PySem.W.findIn K (.ref CB) "__getattr__") (some none))
    (dZB : @Eq _ (PySem.W.hasDictIn K CB) (true))
    (jZB : @Eq _ (PySem.W.findIn K (.ref CB) "__class__") (some (some (.builtin "object.__class__"))))
    (rZB : @Eq _ (PySem.W.mroIn K CB (.type "object")) (some true))
    (k1ZB : @Eq _ (PySem.W.kitOne K (.ref CB) (.ref CB)) (some true))
    (emZB : @Eq _ (PySem.W.exmOne K (.ref CB) (.ref CL)) (some true))
    (kVZB : @Eq _ (PySem.W.kitOne K (.ref CB) (.type "ValueError")) (some true))
    (aZC : @Eq _ (PySem.W.nsIn K mainGlobals "BadChunks") (some (some (.ref CC))))
    (iZC : @Eq _ (PySem.W.findIn K (.ref CC) "__init__") (some (some (.ref fZC))))
    (tZC : @Eq _ (PySem.W.typeIn K (.ref fZC)) (some (.type "function")))
    (lZC : @Eq _ (K.lookup fZC) (some ⟨ocZC, odZC, .func (PySem.W.fnX "__init__" "BadChunks.__init__" (defArgs s_BadChunks___init__) (defBody s_BadChunks___init__) (defScope s_BadChunks___init__) [("__class__", ccZC)] .none kVZC dcZC pmZC anZC (.ref cdZC) ctZC), slZC⟩))
    (cZC : @Eq _ (PySem.W.codeIn K (.ref cdZC) "BadChunks.__init__") (true))
    (eZC : exD K CC)
    (sZC : @Eq _ (PySem.W.findIn K (.ref CC) "__setattr__") (some (some (.builtin "object.__setattr__"))))
    (xZC : @Eq _ (PySem.W.subIn K (.ref CC) (.type "BaseException")) (some true))
    (yZC : @Eq _ (PySem.W.typeIn K (.ref CC)) (some (.type "type")))
    (kZC : @Eq _ (PySem.W.keepIn K (.ref CC)) (true))
    (qZC : @Eq _ (K.lookup ccZC) (some ⟨clZC, cldZC, .cell (some (.ref CC)), cslZC⟩))
    (uZC : @Eq _ (K.lookup cdZC) (some ⟨cclZC, cddZC, .fields vsZC, ccsZC⟩))
    (vZC : v2D vsZC fileZC tfZC)
    (wZC : w2D l fileZC)
    (mZC : @Eq _ (PySem.W.mroIn K CC (.ref CC)) (some true))
    (pZC : @Eq _ (PySem.W.ks_superIn K CC CC "__init__") (some (some (.builtin "ValueError.__init__"))))
    (bZC : @Eq _ (PySem.W.subIn K (.ref CC) (.type "ValueError")) (some true))
    (nZC_part : @Eq _ (PySem.W.findIn K (.ref CC) "part") (some none))
    (gZC : @Eq _ (PySem.W.findIn K (.ref CC) "__getattribute__") (some (some (.builtin "BaseException.__getattribute__"))))
    (hZC : @Eq _ (PySem.W.findIn K (.ref CC) "__getattr__") (some none))
    (dZC : @Eq _ (PySem.W.hasDictIn K CC) (true))
    (jZC : @Eq _ (PySem.W.findIn K (.ref CC) "__class__") (some (some (.builtin "object.__class__"))))
    (rZC : @Eq _ (PySem.W.mroIn K CC (.type "object")) (some true))
    (k1ZC : @Eq _ (PySem.W.kitOne K (.ref CC) (.ref CC)) (some true))
    (emZC : @Eq _ (PySem.W.exmOne K (.ref CC) (.ref CL)) (some true))
    (kVZC : @Eq _ (PySem.W.kitOne K (.ref CC) (.type "ValueError")) (some true))
    (aZM : @Eq _ (PySem.W.nsIn K mainGlobals "TooMany") (some (some (.ref CM))))
    (iZM : @Eq _ (PySem.W.findIn K (.ref CM) "__init__") (some (some (.ref fZM))))
    (tZM : @Eq _ (PySem.W.typeIn K (.ref fZM)) (some (.type "function")))
    (lZM : @Eq _ (K.lookup fZM) (some ⟨ocZM, odZM, .func (PySem.W.fnX "__init__" "TooMany.__init__" (defArgs s_TooMany___init__) (defBody s_TooMany___init__) (defScope s_TooMany___init__) [("__class__", ccZM)] .none kVZM dcZM pmZM anZM (.ref cdZM) ctZM), slZM⟩))
    (cZM : @Eq _ (PySem.W.codeIn K (.ref cdZM) "TooMany.__init__") (true))
    (eZM : exD K CM)
    (sZM : @Eq _ (PySem.W.findIn K (.ref CM) "__setattr__") (some (some (.builtin "object.__setattr__"))))
    (xZM : @Eq _ (PySem.W.subIn K (.ref CM) (.type "BaseException")) (some true))
    (yZM : @Eq _ (PySem.W.typeIn K (.ref CM)) (some (.type "type")))
    (kZM : @Eq _ (PySem.W.keepIn K (.ref CM)) (true))
    (qZM : @Eq _ (K.lookup ccZM) (some ⟨clZM, cldZM, .cell (some (.ref CM)), cslZM⟩))
    (uZM : @Eq _ (K.lookup cdZM) (some ⟨cclZM, cddZM, .fields vsZM, ccsZM⟩))
    (vZM : v2D vsZM fileZM tfZM)
    (wZM : w2D l fileZM)
    (mZM : @Eq _ (PySem.W.mroIn K CM (.ref CM)) (some true))
    (pZM : @Eq _ (PySem.W.ks_superIn K CM CM "__init__") (some (some (.builtin "ValueError.__init__"))))
    (bZM : @Eq _ (PySem.W.subIn K (.ref CM) (.type "ValueError")) (some true))
    (nZM_what : @Eq _ (PySem.W.findIn K (.ref CM) "what") (some none))
    (nZM_most : @Eq _ (PySem.W.findIn K (.ref CM) "most") (some none))
    (gZM : @Eq _ (PySem.W.findIn K (.ref CM) "__getattribute__") (some (some (.builtin "BaseException.__getattribute__"))))
    (hZM : @Eq _ (PySem.W.findIn K (.ref CM) "__getattr__") (some none))
    (dZM : @Eq _ (PySem.W.hasDictIn K CM) (true))
    (jZM : @Eq _ (PySem.W.findIn K (.ref CM) "__class__") (some (some (.builtin "object.__class__"))))
    (rZM : @Eq _ (PySem.W.mroIn K CM (.type "object")) (some true))
    (k1ZM : @Eq _ (PySem.W.kitOne K (.ref CM) (.ref CM)) (some true))
    (emZM : @Eq _ (PySem.W.exmOne K (.ref CM) (.ref CL)) (some true))
    (kVZM : @Eq _ (PySem.W.kitOne K (.ref CM) (.type "ValueError")) (some true))
    (aZN : @Eq _ (PySem.W.nsIn K mainGlobals "NoChunk") (some (some (.ref CN))))
    (iZN : @Eq _ (PySem.W.findIn K (.ref CN) "__init__") (some (some (.ref fZN))))
    (tZN : @Eq _ (PySem.W.typeIn K (.ref fZN)) (some (.type "function")))
    (lZN : @Eq _ (K.lookup fZN) (some ⟨ocZN, odZN, .func (PySem.W.fnX "__init__" "NoChunk.__init__" (defArgs s_NoChunk___init__) (defBody s_NoChunk___init__) (defScope s_NoChunk___init__) [("__class__", ccZN)] .none kVZN dcZN pmZN anZN (.ref cdZN) ctZN), slZN⟩))
    (cZN : @Eq _ (PySem.W.codeIn K (.ref cdZN) "NoChunk.__init__") (true))
    (eZN : exD K CN)
    (sZN : @Eq _ (PySem.W.findIn K (.ref CN) "__setattr__") (some (some (.builtin "object.__setattr__"))))
    (xZN : @Eq _ (PySem.W.subIn K (.ref CN) (.type "BaseException")) (some true))
    (yZN : @Eq _ (PySem.W.typeIn K (.ref CN)) (some (.type "type")))
    (kZN : @Eq _ (PySem.W.keepIn K (.ref CN)) (true))
    (qZN : @Eq _ (K.lookup ccZN) (some ⟨clZN, cldZN, .cell (some (.ref CN)), cslZN⟩))
    (uZN : @Eq _ (K.lookup cdZN) (some ⟨cclZN, cddZN, .fields vsZN, ccsZN⟩))
    (vZN : v2D vsZN fileZN tfZN)
    (wZN : w2D l fileZN)
    (mZN : @Eq _ (PySem.W.mroIn K CN (.ref CN)) (some true))
    (pZN : @Eq _ (PySem.W.ks_superIn K CN CN "__init__") (some (some (.builtin "ValueError.__init__"))))
    (bZN : @Eq _ (PySem.W.subIn K (.ref CN) (.type "ValueError")) (some true))
    (nZN_at : @Eq _ (PySem.W.findIn K (.ref CN) "at") (some none))
    (gZN : @Eq _ (PySem.W.findIn K (.ref CN) "__getattribute__") (some (some (.builtin "BaseException.__getattribute__"))))
    (hZN : @Eq _ (PySem.W.findIn K (.ref CN) "__getattr__") (some none))
    (dZN : @Eq _ (PySem.W.hasDictIn K CN) (true))
    (jZN : @Eq _ (PySem.W.findIn K (.ref CN) "__class__") (some (some (.builtin "object.__class__"))))
    (rZN : @Eq _ (PySem.W.mroIn K CN (.type "object")) (some true))
    (k1ZN : @Eq _ (PySem.W.kitOne K (.ref CN) (.ref CN)) (some true))
    (emZN : @Eq _ (PySem.W.exmOne K (.ref CN) (.ref CL)) (some true))
    (kVZN : @Eq _ (PySem.W.kitOne K (.ref CN) (.type "ValueError")) (some true))
    (aZNa : @Eq _ (PySem.W.nsIn K mainGlobals "BadName") (some (some (.ref BN))))
    (iZNa : @Eq _ (PySem.W.findIn K (.ref BN) "__init__") (some (some (.ref fZNa))))
    (tZNa : @Eq _ (PySem.W.typeIn K (.ref fZNa)) (some (.type "function")))
    (lZNa : @Eq _ (K.lookup fZNa) (some ⟨ocZNa, odZNa, .func (PySem.W.fnX "__init__" "BadName.__init__" (defArgs s_BadName___init__) (defBody s_BadName___init__) (defScope s_BadName___init__) [("__class__", ccZNa)] .none kVZNa dcZNa pmZNa anZNa (.ref cdZNa) ctZNa), slZNa⟩))
    (cZNa : @Eq _ (PySem.W.codeIn K (.ref cdZNa) "BadName.__init__") (true))
    (eZNa : exD K BN)
    (sZNa : @Eq _ (PySem.W.findIn K (.ref BN) "__setattr__") (some (some (.builtin "object.__setattr__"))))
    (xZNa : @Eq _ (PySem.W.subIn K (.ref BN) (.type "BaseException")) (some true))
    (yZNa : @Eq _ (PySem.W.typeIn K (.ref BN)) (some (.type "type")))
    (kZNa : @Eq _ (PySem.W.keepIn K (.ref BN)) (true))
    (qZNa : @Eq _ (K.lookup ccZNa) (some ⟨clZNa, cldZNa, .cell (some (.ref BN)), cslZNa⟩))
    (uZNa : @Eq _ (K.lookup cdZNa) (some ⟨cclZNa, cddZNa, .fields vsZNa, ccsZNa⟩))
    (vZNa : v2D vsZNa fileZNa tfZNa)
    (wZNa : w2D l fileZNa)
    (mZNa : @Eq _ (PySem.W.mroIn K BN (.ref BN)) (some true))
    (pZNa : @Eq _ (PySem.W.ks_superIn K BN BN "__init__") (some (some (.builtin "ValueError.__init__"))))
    (bZNa : @Eq _ (PySem.W.subIn K (.ref BN) (.type "ValueError")) (some true))
    (nZNa_value : @Eq _ (PySem.W.findIn K (.ref BN) "value") (some none))
    (gZNa : @Eq _ (PySem.W.findIn K (.ref BN) "__getattribute__") (some (some (.builtin "BaseException.__getattribute__"))))
    (hZNa : @Eq _ (PySem.W.findIn K (.ref BN) "__getattr__") (some none))
    (dZNa : @Eq _ (PySem.W.hasDictIn K BN) (true))
    (jZNa : @Eq _ (PySem.W.findIn K (.ref BN) "__class__") (some (some (.builtin "object.__class__"))))
    (rZNa : @Eq _ (PySem.W.mroIn K BN (.type "object")) (some true))
    (k1ZNa : @Eq _ (PySem.W.kitOne K (.ref BN) (.ref BN)) (some true))
    (emZNa : @Eq _ (PySem.W.exmOne K (.ref BN) (.ref CL)) (some true))
    (kVZNa : @Eq _ (PySem.W.kitOne K (.ref BN) (.type "ValueError")) (some true))
    (aZSp : @Eq _ (PySem.W.nsIn K mainGlobals "BadSpeed") (some (some (.ref BS))))
    (iZSp : @Eq _ (PySem.W.findIn K (.ref BS) "__init__") (some (some (.ref fZSp))))
    (tZSp : @Eq _ (PySem.W.typeIn K (.ref fZSp)) (some (.type "function")))
    (lZSp : @Eq _ (K.lookup fZSp) (some ⟨ocZSp, odZSp, .func (PySem.W.fnX "__init__" "BadSpeed.__init__" (defArgs s_BadSpeed___init__) (defBody s_BadSpeed___init__) (defScope s_BadSpeed___init__) [("__class__", ccZSp)] .none kVZSp dcZSp pmZSp anZSp (.ref cdZSp) ctZSp), slZSp⟩))
    (cZSp : @Eq _ (PySem.W.codeIn K (.ref cdZSp) "BadSpeed.__init__") (true))
    (eZSp : exD K BS)
    (sZSp : @Eq _ (PySem.W.findIn K (.ref BS) "__setattr__") (some (some (.builtin "object.__setattr__"))))
    (xZSp : @Eq _ (PySem.W.subIn K (.ref BS) (.type "BaseException")) (some true))
    (yZSp : @Eq _ (PySem.W.typeIn K (.ref BS)) (some (.type "type")))
    (kZSp : @Eq _ (PySem.W.keepIn K (.ref BS)) (true))
    (qZSp : @Eq _ (K.lookup ccZSp) (some ⟨clZSp, cldZSp, .cell (some (.ref BS)), cslZSp⟩))
    (uZSp : @Eq _ (K.lookup cdZSp) (some ⟨cclZSp, cddZSp, .fields vsZSp, ccsZSp⟩))
    (vZSp : v2D vsZSp fileZSp tfZSp)
    (wZSp : w2D l fileZSp)
    (mZSp : @Eq _ (PySem.W.mroIn K BS (.ref BS)) (some true))
    (pZSp : @Eq _ (PySem.W.ks_superIn K BS BS "__init__") (some (some (.builtin "ValueError.__init__"))))
    (bZSp : @Eq _ (PySem.W.subIn K (.ref BS) (.type "ValueError")) (some true))
    (nZSp_value : @Eq _ (PySem.W.findIn K (.ref BS) "value") (some none))
    (gZSp : @Eq _ (PySem.W.findIn K (.ref BS) "__getattribute__") (some (some (.builtin "BaseException.__getattribute__"))))
    (hZSp : @Eq _ (PySem.W.findIn K (.ref BS) "__getattr__") (some none))
    (dZSp : @Eq _ (PySem.W.hasDictIn K BS) (true))
    (jZSp : @Eq _ (PySem.W.findIn K (.ref BS) "__class__") (some (some (.builtin "object.__class__"))))
    (rZSp : @Eq _ (PySem.W.mroIn K BS (.type "object")) (some true))
    (k1ZSp : @Eq _ (PySem.W.kitOne K (.ref BS) (.ref BS)) (some true))
    (emZSp : @Eq _ (PySem.W.exmOne K (.ref BS) (.ref CL)) (some true))
    (kVZSp : @Eq _ (PySem.W.kitOne K (.ref BS) (.type "ValueError")) (some true))
    (aZCr : @Eq _ (PySem.W.nsIn K mainGlobals "BadCrew") (some (some (.ref BW))))
    (iZCr : @Eq _ (PySem.W.findIn K (.ref BW) "__init__") (some (some (.ref fZCr))))
    (tZCr : @Eq _ (PySem.W.typeIn K (.ref fZCr)) (some (.type "function")))
    (lZCr : @Eq _ (K.lookup fZCr) (some ⟨ocZCr, odZCr, .func (PySem.W.fnX "__init__" "BadCrew.__init__" (defArgs s_BadCrew___init__) (defBody s_BadCrew___init__) (defScope s_BadCrew___init__) [("__class__", ccZCr)] .none kVZCr dcZCr pmZCr anZCr (.ref cdZCr) ctZCr), slZCr⟩))
    (cZCr : @Eq _ (PySem.W.codeIn K (.ref cdZCr) "BadCrew.__init__") (true))
    (eZCr : exD K BW)
    (sZCr : @Eq _ (PySem.W.findIn K (.ref BW) "__setattr__") (some (some (.builtin "object.__setattr__"))))
    (xZCr : @Eq _ (PySem.W.subIn K (.ref BW) (.type "BaseException")) (some true))
    (yZCr : @Eq _ (PySem.W.typeIn K (.ref BW)) (some (.type "type")))
    (kZCr : @Eq _ (PySem.W.keepIn K (.ref BW)) (true))
    (qZCr : @Eq _ (K.lookup ccZCr) (some ⟨clZCr, cldZCr, .cell (some (.ref BW)), cslZCr⟩))
    (uZCr : @Eq _ (K.lookup cdZCr) (some ⟨cclZCr, cddZCr, .fields vsZCr, ccsZCr⟩))
    (vZCr : v2D vsZCr fileZCr tfZCr)
    (wZCr : w2D l fileZCr)
    (mZCr : @Eq _ (PySem.W.mroIn K BW (.ref BW)) (some true))
    (pZCr : @Eq _ (PySem.W.ks_superIn K BW BW "__init__") (some (some (.builtin "ValueError.__init__"))))
    (bZCr : @Eq _ (PySem.W.subIn K (.ref BW) (.type "ValueError")) (some true))
    (nZCr_part : @Eq _ (PySem.W.findIn K (.ref BW) "part") (some none))
    (gZCr : @Eq _ (PySem.W.findIn K (.ref BW) "__getattribute__") (some (some (.builtin "BaseException.__getattribute__"))))
    (hZCr : @Eq _ (PySem.W.findIn K (.ref BW) "__getattr__") (some none))
    (dZCr : @Eq _ (PySem.W.hasDictIn K BW) (true))
    (jZCr : @Eq _ (PySem.W.findIn K (.ref BW) "__class__") (some (some (.builtin "object.__class__"))))
    (rZCr : @Eq _ (PySem.W.mroIn K BW (.type "object")) (some true))
    (k1ZCr : @Eq _ (PySem.W.kitOne K (.ref BW) (.ref BW)) (some true))
    (emZCr : @Eq _ (PySem.W.exmOne K (.ref BW) (.ref CL)) (some true))
    (kVZCr : @Eq _ (PySem.W.kitOne K (.ref BW) (.type "ValueError")) (some true))
    (aZNw : @Eq _ (PySem.W.nsIn K mainGlobals "NoWorker") (some (some (.ref NW))))
    (iZNw : @Eq _ (PySem.W.findIn K (.ref NW) "__init__") (some (some (.ref fZNw))))
    (tZNw : @Eq _ (PySem.W.typeIn K (.ref fZNw)) (some (.type "function")))
    (lZNw : @Eq _ (K.lookup fZNw) (some ⟨ocZNw, odZNw, .func (PySem.W.fnX "__init__" "NoWorker.__init__" (defArgs s_NoWorker___init__) (defBody s_NoWorker___init__) (defScope s_NoWorker___init__) [("__class__", ccZNw)] .none kVZNw dcZNw pmZNw anZNw (.ref cdZNw) ctZNw), slZNw⟩))
    (cZNw : @Eq _ (PySem.W.codeIn K (.ref cdZNw) "NoWorker.__init__") (true))
    (eZNw : exD K NW)
    (sZNw : @Eq _ (PySem.W.findIn K (.ref NW) "__setattr__") (some (some (.builtin "object.__setattr__"))))
    (xZNw : @Eq _ (PySem.W.subIn K (.ref NW) (.type "BaseException")) (some true))
    (yZNw : @Eq _ (PySem.W.typeIn K (.ref NW)) (some (.type "type")))
    (kZNw : @Eq _ (PySem.W.keepIn K (.ref NW)) (true))
    (qZNw : @Eq _ (K.lookup ccZNw) (some ⟨clZNw, cldZNw, .cell (some (.ref NW)), cslZNw⟩))
    (uZNw : @Eq _ (K.lookup cdZNw) (some ⟨cclZNw, cddZNw, .fields vsZNw, ccsZNw⟩))
    (vZNw : v2D vsZNw fileZNw tfZNw)
    (wZNw : w2D l fileZNw)
    (mZNw : @Eq _ (PySem.W.mroIn K NW (.ref NW)) (some true))
    (pZNw : @Eq _ (PySem.W.ks_superIn K NW NW "__init__") (some (some (.builtin "ValueError.__init__"))))
    (bZNw : @Eq _ (PySem.W.subIn K (.ref NW) (.type "ValueError")) (some true))
    (nZNw_name : @Eq _ (PySem.W.findIn K (.ref NW) "name") (some none))
    (gZNw : @Eq _ (PySem.W.findIn K (.ref NW) "__getattribute__") (some (some (.builtin "BaseException.__getattribute__"))))
    (hZNw : @Eq _ (PySem.W.findIn K (.ref NW) "__getattr__") (some none))
    (dZNw : @Eq _ (PySem.W.hasDictIn K NW) (true))
    (jZNw : @Eq _ (PySem.W.findIn K (.ref NW) "__class__") (some (some (.builtin "object.__class__"))))
    (rZNw : @Eq _ (PySem.W.mroIn K NW (.type "object")) (some true))
    (k1ZNw : @Eq _ (PySem.W.kitOne K (.ref NW) (.ref NW)) (some true))
    (emZNw : @Eq _ (PySem.W.exmOne K (.ref NW) (.ref CL)) (some true))
    (kVZNw : @Eq _ (PySem.W.kitOne K (.ref NW) (.type "ValueError")) (some true))
    (aZQ : @Eq _ (PySem.W.nsIn K mainGlobals "BadRatio") (some (some (.ref BR))))
    (iZQ : @Eq _ (PySem.W.findIn K (.ref BR) "__init__") (some (some (.ref fZQ))))
    (tZQ : @Eq _ (PySem.W.typeIn K (.ref fZQ)) (some (.type "function")))
    (lZQ : @Eq _ (K.lookup fZQ) (some ⟨ocZQ, odZQ, .func (PySem.W.fnX "__init__" "BadRatio.__init__" (defArgs s_BadRatio___init__) (defBody s_BadRatio___init__) (defScope s_BadRatio___init__) [("__class__", ccZQ)] .none kVZQ dcZQ pmZQ anZQ (.ref cdZQ) ctZQ), slZQ⟩))
    (cZQ : @Eq _ (PySem.W.codeIn K (.ref cdZQ) "BadRatio.__init__") (true))
    (eZQ : exD K BR)
    (sZQ : @Eq _ (PySem.W.findIn K (.ref BR) "__setattr__") (some (some (.builtin "object.__setattr__"))))
    (xZQ : @Eq _ (PySem.W.subIn K (.ref BR) (.type "BaseException")) (some true))
    (yZQ : @Eq _ (PySem.W.typeIn K (.ref BR)) (some (.type "type")))
    (kZQ : @Eq _ (PySem.W.keepIn K (.ref BR)) (true))
    (qZQ : @Eq _ (K.lookup ccZQ) (some ⟨clZQ, cldZQ, .cell (some (.ref BR)), cslZQ⟩))
    (uZQ : @Eq _ (K.lookup cdZQ) (some ⟨cclZQ, cddZQ, .fields vsZQ, ccsZQ⟩))
    (vZQ : v2D vsZQ fileZQ tfZQ)
    (wZQ : w2D l fileZQ)
    (mZQ : @Eq _ (PySem.W.mroIn K BR (.ref BR)) (some true))
    (pZQ : @Eq _ (PySem.W.ks_superIn K BR BR "__init__") (some (some (.builtin "ValueError.__init__"))))
    (bZQ : @Eq _ (PySem.W.subIn K (.ref BR) (.type "ValueError")) (some true))
    (nZQ_value : @Eq _ (PySem.W.findIn K (.ref BR) "value") (some none))
    (gZQ : @Eq _ (PySem.W.findIn K (.ref BR) "__getattribute__") (some (some (.builtin "BaseException.__getattribute__"))))
    (hZQ : @Eq _ (PySem.W.findIn K (.ref BR) "__getattr__") (some none))
    (dZQ : @Eq _ (PySem.W.hasDictIn K BR) (true))
    (jZQ : @Eq _ (PySem.W.findIn K (.ref BR) "__class__") (some (some (.builtin "object.__class__"))))
    (rZQ : @Eq _ (PySem.W.mroIn K BR (.type "object")) (some true))
    (k1ZQ : @Eq _ (PySem.W.kitOne K (.ref BR) (.ref BR)) (some true))
    (emZQ : @Eq _ (PySem.W.exmOne K (.ref BR) (.ref CL)) (some true))
    (kVZQ : @Eq _ (PySem.W.kitOne K (.ref BR) (.type "ValueError")) (some true))
    (aZRe : @Eq _ (PySem.W.nsIn K mainGlobals "BadRest") (some (some (.ref BE))))
    (iZRe : @Eq _ (PySem.W.findIn K (.ref BE) "__init__") (some (some (.ref fZRe))))
    (tZRe : @Eq _ (PySem.W.typeIn K (.ref fZRe)) (some (.type "function")))
    (lZRe : @Eq _ (K.lookup fZRe) (some ⟨ocZRe, odZRe, .func (PySem.W.fnX "__init__" "BadRest.__init__" (defArgs s_BadRest___init__) (defBody s_BadRest___init__) (defScope s_BadRest___init__) [("__class__", ccZRe)] .none kVZRe dcZRe pmZRe anZRe (.ref cdZRe) ctZRe), slZRe⟩))
    (cZRe : @Eq _ (PySem.W.codeIn K (.ref cdZRe) "BadRest.__init__") (true))
    (eZRe : exD K BE)
    (sZRe : @Eq _ (PySem.W.findIn K (.ref BE) "__setattr__") (some (some (.builtin "object.__setattr__"))))
    (xZRe : @Eq _ (PySem.W.subIn K (.ref BE) (.type "BaseException")) (some true))
    (yZRe : @Eq _ (PySem.W.typeIn K (.ref BE)) (some (.type "type")))
    (kZRe : @Eq _ (PySem.W.keepIn K (.ref BE)) (true))
    (qZRe : @Eq _ (K.lookup ccZRe) (some ⟨clZRe, cldZRe, .cell (some (.ref BE)), cslZRe⟩))
    (uZRe : @Eq _ (K.lookup cdZRe) (some ⟨cclZRe, cddZRe, .fields vsZRe, ccsZRe⟩))
    (vZRe : v2D vsZRe fileZRe tfZRe)
    (wZRe : w2D l fileZRe)
    (mZRe : @Eq _ (PySem.W.mroIn K BE (.ref BE)) (some true))
    (pZRe : @Eq _ (PySem.W.ks_superIn K BE BE "__init__") (some (some (.builtin "ValueError.__init__"))))
    (bZRe : @Eq _ (PySem.W.subIn K (.ref BE) (.type "ValueError")) (some true))
    (nZRe_value : @Eq _ (PySem.W.findIn K (.ref BE) "value") (some none))
    (gZRe : @Eq _ (PySem.W.findIn K (.ref BE) "__getattribute__") (some (some (.builtin "BaseException.__getattribute__"))))
    (hZRe : @Eq _ (PySem.W.findIn K (.ref BE) "__getattr__") (some none))
    (dZRe : @Eq _ (PySem.W.hasDictIn K BE) (true))
    (jZRe : @Eq _ (PySem.W.findIn K (.ref BE) "__class__") (some (some (.builtin "object.__class__"))))
    (rZRe : @Eq _ (PySem.W.mroIn K BE (.type "object")) (some true))
    (k1ZRe : @Eq _ (PySem.W.kitOne K (.ref BE) (.ref BE)) (some true))
    (emZRe : @Eq _ (PySem.W.exmOne K (.ref BE) (.ref CL)) (some true))
    (kVZRe : @Eq _ (PySem.W.kitOne K (.ref BE) (.type "ValueError")) (some true))
    (aZSe : @Eq _ (PySem.W.nsIn K mainGlobals "BadSetting") (some (some (.ref SE))))
    (iZSe : @Eq _ (PySem.W.findIn K (.ref SE) "__init__") (some (some (.ref fZSe))))
    (tZSe : @Eq _ (PySem.W.typeIn K (.ref fZSe)) (some (.type "function")))
    (lZSe : @Eq _ (K.lookup fZSe) (some ⟨ocZSe, odZSe, .func (PySem.W.fnX "__init__" "BadSetting.__init__" (defArgs s_BadSetting___init__) (defBody s_BadSetting___init__) (defScope s_BadSetting___init__) [("__class__", ccZSe)] .none kVZSe dcZSe pmZSe anZSe (.ref cdZSe) ctZSe), slZSe⟩))
    (cZSe : @Eq _ (PySem.W.codeIn K (.ref cdZSe) "BadSetting.__init__") (true))
    (eZSe : exD K SE)
    (sZSe : @Eq _ (PySem.W.findIn K (.ref SE) "__setattr__") (some (some (.builtin "object.__setattr__"))))
    (xZSe : @Eq _ (PySem.W.subIn K (.ref SE) (.type "BaseException")) (some true))
    (yZSe : @Eq _ (PySem.W.typeIn K (.ref SE)) (some (.type "type")))
    (kZSe : @Eq _ (PySem.W.keepIn K (.ref SE)) (true))
    (qZSe : @Eq _ (K.lookup ccZSe) (some ⟨clZSe, cldZSe, .cell (some (.ref SE)), cslZSe⟩))
    (uZSe : @Eq _ (K.lookup cdZSe) (some ⟨cclZSe, cddZSe, .fields vsZSe, ccsZSe⟩))
    (vZSe : v2D vsZSe fileZSe tfZSe)
    (wZSe : w2D l fileZSe)
    (mZSe : @Eq _ (PySem.W.mroIn K SE (.ref SE)) (some true))
    (pZSe : @Eq _ (PySem.W.ks_superIn K SE SE "__init__") (some (some (.builtin "ValueError.__init__"))))
    (bZSe : @Eq _ (PySem.W.subIn K (.ref SE) (.type "ValueError")) (some true))
    (nZSe_part : @Eq _ (PySem.W.findIn K (.ref SE) "part") (some none))
    (gZSe : @Eq _ (PySem.W.findIn K (.ref SE) "__getattribute__") (some (some (.builtin "BaseException.__getattribute__"))))
    (hZSe : @Eq _ (PySem.W.findIn K (.ref SE) "__getattr__") (some none))
    (dZSe : @Eq _ (PySem.W.hasDictIn K SE) (true))
    (jZSe : @Eq _ (PySem.W.findIn K (.ref SE) "__class__") (some (some (.builtin "object.__class__"))))
    (rZSe : @Eq _ (PySem.W.mroIn K SE (.type "object")) (some true))
    (k1ZSe : @Eq _ (PySem.W.kitOne K (.ref SE) (.ref SE)) (some true))
    (emZSe : @Eq _ (PySem.W.exmOne K (.ref SE) (.ref CL)) (some true))
    (kVZSe : @Eq _ (PySem.W.kitOne K (.ref SE) (.type "ValueError")) (some true))
    (aZCo : @Eq _ (PySem.W.nsIn K mainGlobals "BadCost") (some (some (.ref BA))))
    (iZCo : @Eq _ (PySem.W.findIn K (.ref BA) "__init__") (some (some (.ref fZCo))))
    (tZCo : @Eq _ (PySem.W.typeIn K (.ref fZCo)) (some (.type "function")))
    (lZCo : @Eq _ (K.lookup fZCo) (some ⟨ocZCo, odZCo, .func (PySem.W.fnX "__init__" "BadCost.__init__" (defArgs s_BadCost___init__) (defBody s_BadCost___init__) (defScope s_BadCost___init__) [("__class__", ccZCo)] .none kVZCo dcZCo pmZCo anZCo (.ref cdZCo) ctZCo), slZCo⟩))
    (cZCo : @Eq _ (PySem.W.codeIn K (.ref cdZCo) "BadCost.__init__") (true))
    (eZCo : exD K BA)
    (sZCo : @Eq _ (PySem.W.findIn K (.ref BA) "__setattr__") (some (some (.builtin "object.__setattr__"))))
    (xZCo : @Eq _ (PySem.W.subIn K (.ref BA) (.type "BaseException")) (some true))
    (yZCo : @Eq _ (PySem.W.typeIn K (.ref BA)) (some (.type "type")))
    (kZCo : @Eq _ (PySem.W.keepIn K (.ref BA)) (true))
    (qZCo : @Eq _ (K.lookup ccZCo) (some ⟨clZCo, cldZCo, .cell (some (.ref BA)), cslZCo⟩))
    (uZCo : @Eq _ (K.lookup cdZCo) (some ⟨cclZCo, cddZCo, .fields vsZCo, ccsZCo⟩))
    (vZCo : v2D vsZCo fileZCo tfZCo)
    (wZCo : w2D l fileZCo)
    (mZCo : @Eq _ (PySem.W.mroIn K BA (.ref BA)) (some true))
    (pZCo : @Eq _ (PySem.W.ks_superIn K BA BA "__init__") (some (some (.builtin "ValueError.__init__"))))
    (bZCo : @Eq _ (PySem.W.subIn K (.ref BA) (.type "ValueError")) (some true))
    (nZCo_value : @Eq _ (PySem.W.findIn K (.ref BA) "value") (some none))
    (gZCo : @Eq _ (PySem.W.findIn K (.ref BA) "__getattribute__") (some (some (.builtin "BaseException.__getattribute__"))))
    (hZCo : @Eq _ (PySem.W.findIn K (.ref BA) "__getattr__") (some none))
    (dZCo : @Eq _ (PySem.W.hasDictIn K BA) (true))
    (jZCo : @Eq _ (PySem.W.findIn K (.ref BA) "__class__") (some (some (.builtin "object.__class__"))))
    (rZCo : @Eq _ (PySem.W.mroIn K BA (.type "object")) (some true))
    (k1ZCo : @Eq _ (PySem.W.kitOne K (.ref BA) (.ref BA)) (some true))
    (emZCo : @Eq _ (PySem.W.exmOne K (.ref BA) (.ref CL)) (some true))
    (kVZCo : @Eq _ (PySem.W.kitOne K (.ref BA) (.type "ValueError")) (some true))
    (aZFe : @Eq _ (PySem.W.nsIn K mainGlobals "BadFee") (some (some (.ref BF))))
    (iZFe : @Eq _ (PySem.W.findIn K (.ref BF) "__init__") (some (some (.ref fZFe))))
    (tZFe : @Eq _ (PySem.W.typeIn K (.ref fZFe)) (some (.type "function")))
    (lZFe : @Eq _ (K.lookup fZFe) (some ⟨ocZFe, odZFe, .func (PySem.W.fnX "__init__" "BadFee.__init__" (defArgs s_BadFee___init__) (defBody s_BadFee___init__) (defScope s_BadFee___init__) [("__class__", ccZFe)] .none kVZFe dcZFe pmZFe anZFe (.ref cdZFe) ctZFe), slZFe⟩))
    (cZFe : @Eq _ (PySem.W.codeIn K (.ref cdZFe) "BadFee.__init__") (true))
    (eZFe : exD K BF)
    (sZFe : @Eq _ (PySem.W.findIn K (.ref BF) "__setattr__") (some (some (.builtin "object.__setattr__"))))
    (xZFe : @Eq _ (PySem.W.subIn K (.ref BF) (.type "BaseException")) (some true))
    (yZFe : @Eq _ (PySem.W.typeIn K (.ref BF)) (some (.type "type")))
    (kZFe : @Eq _ (PySem.W.keepIn K (.ref BF)) (true))
    (qZFe : @Eq _ (K.lookup ccZFe) (some ⟨clZFe, cldZFe, .cell (some (.ref BF)), cslZFe⟩))
    (uZFe : @Eq _ (K.lookup cdZFe) (some ⟨cclZFe, cddZFe, .fields vsZFe, ccsZFe⟩))
    (vZFe : v2D vsZFe fileZFe tfZFe)
    (wZFe : w2D l fileZFe)
    (mZFe : @Eq _ (PySem.W.mroIn K BF (.ref BF)) (some true))
    (pZFe : @Eq _ (PySem.W.ks_superIn K BF BF "__init__") (some (some (.builtin "ValueError.__init__"))))
    (bZFe : @Eq _ (PySem.W.subIn K (.ref BF) (.type "ValueError")) (some true))
    (nZFe_value : @Eq _ (PySem.W.findIn K (.ref BF) "value") (some none))
    (gZFe : @Eq _ (PySem.W.findIn K (.ref BF) "__getattribute__") (some (some (.builtin "BaseException.__getattribute__"))))
    (hZFe : @Eq _ (PySem.W.findIn K (.ref BF) "__getattr__") (some none))
    (dZFe : @Eq _ (PySem.W.hasDictIn K BF) (true))
    (jZFe : @Eq _ (PySem.W.findIn K (.ref BF) "__class__") (some (some (.builtin "object.__class__"))))
    (rZFe : @Eq _ (PySem.W.mroIn K BF (.type "object")) (some true))
    (k1ZFe : @Eq _ (PySem.W.kitOne K (.ref BF) (.ref BF)) (some true))
    (emZFe : @Eq _ (PySem.W.exmOne K (.ref BF) (.ref CL)) (some true))
    (kVZFe : @Eq _ (PySem.W.kitOne K (.ref BF) (.type "ValueError")) (some true))
    (aZT : @Eq _ (PySem.W.nsIn K mainGlobals "BadText") (some (some (.ref BT))))
    (iZT : @Eq _ (PySem.W.findIn K (.ref BT) "__init__") (some (some (.ref fZT))))
    (tZT : @Eq _ (PySem.W.typeIn K (.ref fZT)) (some (.type "function")))
    (lZT : @Eq _ (K.lookup fZT) (some ⟨ocZT, odZT, .func (PySem.W.fnX "__init__" "BadText.__init__" (defArgs s_BadText___init__) (defBody s_BadText___init__) (defScope s_BadText___init__) [("__class__", ccZT)] .none kVZT dcZT pmZT anZT (.ref cdZT) ctZT), slZT⟩))
    (cZT : @Eq _ (PySem.W.codeIn K (.ref cdZT) "BadText.__init__") (true))
    (eZT : exD K BT)
    (sZT : @Eq _ (PySem.W.findIn K (.ref BT) "__setattr__") (some (some (.builtin "object.__setattr__"))))
    (xZT : @Eq _ (PySem.W.subIn K (.ref BT) (.type "BaseException")) (some true))
    (yZT : @Eq _ (PySem.W.typeIn K (.ref BT)) (some (.type "type")))
    (kZT : @Eq _ (PySem.W.keepIn K (.ref BT)) (true))
    (qZT : @Eq _ (K.lookup ccZT) (some ⟨clZT, cldZT, .cell (some (.ref BT)), cslZT⟩))
    (uZT : @Eq _ (K.lookup cdZT) (some ⟨cclZT, cddZT, .fields vsZT, ccsZT⟩))
    (vZT : v2D vsZT fileZT tfZT)
    (wZT : w2D l fileZT)
    (mZT : @Eq _ (PySem.W.mroIn K BT (.ref BT)) (some true))
    (pZT : @Eq _ (PySem.W.ks_superIn K BT BT "__init__") (some (some (.builtin "ValueError.__init__"))))
    (bZT : @Eq _ (PySem.W.subIn K (.ref BT) (.type "ValueError")) (some true))
    (nZT_line : @Eq _ (PySem.W.findIn K (.ref BT) "line") (some none))
    (nZT_word : @Eq _ (PySem.W.findIn K (.ref BT) "word") (some none))
    (gZT : @Eq _ (PySem.W.findIn K (.ref BT) "__getattribute__") (some (some (.builtin "BaseException.__getattribute__"))))
    (hZT : @Eq _ (PySem.W.findIn K (.ref BT) "__getattr__") (some none))
    (dZT : @Eq _ (PySem.W.hasDictIn K BT) (true))
    (jZT : @Eq _ (PySem.W.findIn K (.ref BT) "__class__") (some (some (.builtin "object.__class__"))))
    (rZT : @Eq _ (PySem.W.mroIn K BT (.type "object")) (some true))
    (k1ZT : @Eq _ (PySem.W.kitOne K (.ref BT) (.ref BT)) (some true))
    (emZT : @Eq _ (PySem.W.exmOne K (.ref BT) (.ref CL)) (some true))
    (kVZT : @Eq _ (PySem.W.kitOne K (.ref BT) (.type "ValueError")) (some true))
    (kMW : @Eq _ (PySem.W.kitOne K (.ref CM) (.ref BT)) (some false))
    (kWM : @Eq _ (PySem.W.kitOne K (.ref BT) (.ref CM)) (some false))
    (kCI : @Eq _ (PySem.W.kitOne K (.ref CK) (.type "int")) (some false))
    (kCS : @Eq _ (PySem.W.kitOne K (.ref CK) (.type "str")) (some false))
    (kCLT : @Eq _ (PySem.W.kitAny K (.ref CK) [.type "list", .type "tuple"]) (some false))
    (kTC : @Eq _ ((["int", "NoneType", "bool", "str", "tuple", "list", "dict"].all fun T => decide (PySem.W.kitOne K (.type T) (.ref CK) = some false))) (true))
    (gMS : @Eq _ (PySem.W.nsIn K mainGlobals "MOST_SIZE") (some (some (.int 1000000000000000000000000000000 tMS))))
    (gMC : @Eq _ (PySem.W.nsIn K mainGlobals "MOST_CHUNKS") (some (some (.int 5000 tMC))))
    (gMI : @Eq _ (PySem.W.nsIn K mainGlobals "MOST_ITEMS") (some (some (.int 1000000000000000000000000000000 tMI))))
    (gMF : @Eq _ (PySem.W.nsIn K mainGlobals "MOST_FIGURES") (some (some (.int 4000 tMF))))
    (digs : @Eq _ (PySem.W.nsIn K cStatics "sys.int_max_str_digits") (some none))
    (gWo : @Eq _ (PySem.W.nsIn K mainGlobals "WORDS") (some (some (.ref aW))))
    (lWo : @Eq _ (K.lookup aW) (some ⟨.type "tuple", odW, .seq #[.str "cost" wt0, .str "fee" wt1, .str "none" wt2, .str "order" wt3, .str "ready" wt4, .str "self" wt5, .str "chunks" wt6, .str "crew" wt7, .str "late" wt8, .str "at" wt9] nW, slW⟩))
    (gSi : @Eq _ (PySem.W.nsIn K mainGlobals "SIGNS") (some (some (.str "abcdefghijklmnopqrstuvwxyz" tSG))))
    (gSp : @Eq _ (PySem.W.nsIn K mainGlobals "MOST_SPEED") (some (some (.int 60 tSP))))
    (gMW : @Eq _ (PySem.W.nsIn K mainGlobals "MOST_WORKERS") (some (some (.int 8 tMW))))
    (gCo : @Eq _ (PySem.W.nsIn K mainGlobals "MOST_COST") (some (some (.int 60 tMCo))))
    (gFe : @Eq _ (PySem.W.nsIn K mainGlobals "MOST_FEE") (some (some (.int 1000000000000000000000000000000 tMFe))))
    (yoQ : @Eq _ (odTys.all (fun T => decide (PySem.W.kitOne K (.type T) (.ref CQ) = some false))) (true))
    (yiQ : @Eq _ (PySem.W.kitOne K (.type "int") (.ref CQ)) (some false))
    (sfQ : @Eq _ (PySem.W.selfFirst K CQ) (true))
    (mrQ : @Eq _ ((PySem.W.clsIn K CQ).map (·.mro)) (some [.ref CQ, .type "object"]))
    (sIQ : @Eq _ (PySem.W.subIn K (.ref CQ) (.type "int")) (some false))
    (sBQ : @Eq _ (PySem.W.subIn K (.ref CQ) (.type "bool")) (some false))
    (oQ_add : @Eq _ (othersB K CQ .Add) (true))
    (vQ_add : @Eq _ (PySem.W.findIn K (.type "int") (dunderI (.Add : Operator).info.2)) (some none))
    (uQ_add : @Eq _ (PySem.W.findIn K (.ref CQ) (dunderI (.Add : Operator).info.2)) (some none))
    (xQ_add : @Eq _ (PySem.W.findIn K (.type "object") (dunderI (.Add : Operator).info.2)) (some none))
    (ns_CW : @Eq _ (PySem.W.noSeq K CW) (true))
    (fi_CW : @Eq _ (PySem.W.fnIn K g_CW___getitem__) (true))
    (z_isinstance : @Eq _ (PySem.W.nsIn K mainGlobals "isinstance") (some none))
    (z_int : @Eq _ (PySem.W.nsIn K mainGlobals "int") (some none))
    (z_bool : @Eq _ (PySem.W.nsIn K mainGlobals "bool") (some none))
    (z_len : @Eq _ (PySem.W.nsIn K mainGlobals "len") (some none))
    (z_abs : @Eq _ (PySem.W.nsIn K mainGlobals "abs") (some none))
    (z_list : @Eq _ (PySem.W.nsIn K mainGlobals "list") (some none))
    (z_tuple : @Eq _ (PySem.W.nsIn K mainGlobals "tuple") (some none))
    (z_range : @Eq _ (PySem.W.nsIn K mainGlobals "range") (some none))
    (z_repr : @Eq _ (PySem.W.nsIn K mainGlobals "repr") (some none))
    (z_str : @Eq _ (PySem.W.nsIn K mainGlobals "str") (some none))
    (z_zip : @Eq _ (PySem.W.nsIn K mainGlobals "zip") (some none))
    (z_min : @Eq _ (PySem.W.nsIn K mainGlobals "min") (some none))
    (z_max : @Eq _ (PySem.W.nsIn K mainGlobals "max") (some none))
    (z_all : @Eq _ (PySem.W.nsIn K mainGlobals "all") (some none))
    (z_any : @Eq _ (PySem.W.nsIn K mainGlobals "any") (some none))
    (z_sorted : @Eq _ (PySem.W.nsIn K mainGlobals "sorted") (some none))
    (z_enumerate : @Eq _ (PySem.W.nsIn K mainGlobals "enumerate") (some none))
    (z_ValueError : @Eq _ (PySem.W.nsIn K mainGlobals "ValueError") (some none))
    (z_dict : @Eq _ (PySem.W.nsIn K mainGlobals "dict") (some none))
    (z_sum : @Eq _ (PySem.W.nsIn K mainGlobals "sum") (some none))
    (z_set : @Eq _ (PySem.W.nsIn K mainGlobals "set") (some none))
    (z_iter : @Eq _ (PySem.W.nsIn K mainGlobals "iter") (some none))
    (hPd0 : ([] : List Addr).Nodup), LawG l w K CX0 13 63 "_law_script" mg fa h
end K30H
namespace L3
open PySem PySem.W
def kmOb (a t : List Addr) (s : SharedT) : List (Option Obj) × List (Option Obj) := (a.map (HandSHeadRun.getT s), t.map (HandSHeadRun.getT s))
theorem kmOb_eq {K : Params → Frag} {a : List Addr} {e : ∀ P, a = (K P).map (·.1)} {t : List Addr} (s : SharedT) : kmOb a t s = (kmHook K a e t).obs s.abs := by
  have h : HandSHeadRun.getT s = s.abs.heap.get? := funext (HandSHeadRun.getT_eq s)
  unfold kmOb
  rw [h]; rfl
open PySem.Calls PyProof.Rows HandSHeadRun in
def RunEqI (r : OpenRow) (q : Program) (H : Hook) (ob : SharedT → H.α) (M : Nat) (loose : List PySem.Str) (w : World) : Prop :=
  (wholeF (fun p => stepQ (denQ tabQ) p w) fenceQ M r.prog).map (fun x => (looksF r.prog x.1.heap x.2.abs, seenQ q loose (importedModules r.prog.main.body) (fun s => xlAt q [] s && recOk r.toRowW.records s) x.2.abs, ob x.2)) = some (true, openGood q loose, H.val w)
open PySem.Calls PyProof.Rows HandSHeadRun in
theorem head_anyI {r : OpenRow} {q : Program} {H : Hook} {ob : SharedT → H.α} {M : Nat} {loose : List PySem.Str} {d : DefRec} {kwd : List (PySem.Str × PySem.Expr)} (ho : ∀ s : SharedT, ob s = H.obs s.abs)
    (run : ∀ w, RunEqI r q H ob M loose w)
    (hdef : defOf q r.name = some (d, kwd)) (hp : r.prog.theDef r.name = some (d.params, d.body, d.scope)) (hk : kwWritten? d.params.kwonlyargs d.params.kw_defaults = some kwd)
    (hwr : (!r.writes || r.records.isEmpty) = true) (k1 : r.wellSaid = true) (ok : (chainsOk q && opensWell r.prog && (frees r.toRowW && r.within.isEmpty)) = true) (hb : r.prog.bare) (hw : r.toRowW.promised)
    (call : WalkO q loose (XL q []) H.says r.toRowW d kwd fun f vs => PySem.call f vs) : r.Holds := by
  have left : LeftO r.prog q loose (fun s => xlAt q [] s && recOk r.toRowW.records s) H.obs H.val M true :=
    left_imp fun w => by
      have z := run w
      have eo : ob = fun s => H.obs s.abs := funext ho
      rw [eo] at z
      rw [wholeQ_eq]
      simp only [seenQ_eq]
      exact z
  exact holds_open (r := r) (q := q) (loose := loose) (XP := XL q []) (YP := H.says) (d := d) (kwd := kwd) left H.of H.keeps (fun s z => xl_of s (Bool.and_eq_true_iff.mp z).1) XL.keeps hdef hp hk (fun s z => recFacts_of (Bool.and_eq_true_iff.mp z).2) hwr k1 ok hb hw call
end L3
open PySem PySem.W PyProof.Rows
section
local macro_rules | `(tactic| o_head $hk) => `(tactic| exact False.elim (by assumption))
/-- writes the part of the heap out, as K30H.mk.heap_1 -/
theorem K30H.mk (f : False) : OpenRow.Holds (OpenLaw.row PySem.Challenge.rw_latechunks_k30_whole_small_lists_over_al) := by k_head
end
def K30H.hpA : List Addr := [2, 3, 15, 17, 18, 20, 21, 22, 23, 25, 26, 28, 29, 30, 32, 33, 35, 36, 37, 39, 40, 42, 43, 44, 47, 48, 49, 56, 57, 58, 59, 62, 65, 70, 71, 73, 74, 76, 77, 78, 79, 80, 83, 86, 91, 92, 94, 95, 97, 98, 99, 100, 101, 104, 107, 112, 113, 115, 116, 118, 119, 120, 121, 122, 125, 128, 133, 134, 136, 137, 139, 140, 141, 142, 143, 146, 149, 154, 155, 157, 158, 160, 161, 162, 163, 164, 167, 170, 175, 176, 178, 179, 181, 182, 183, 184, 185, 188, 191, 196, 197, 199, 200, 202, 203, 204, 205, 206, 209, 212, 217, 218, 220, 221, 223, 224, 225, 226, 227, 230, 233, 238, 239, 241, 242, 244, 245, 246, 247, 248, 251, 254, 259, 260, 262, 263, 265, 266, 267, 268, 269, 272, 275, 280, 281, 283, 284, 286, 287, 288, 289, 290, 293, 296, 301, 302, 304, 305, 307, 308, 309, 310, 311, 314, 317, 322, 323, 325, 326, 328, 329, 330, 331, 332, 335, 338, 343, 344, 346, 347, 349, 350, 351, 352, 353, 356, 358, 359, 361, 362, 363, 366, 367, 368, 370, 371, 373, 374, 375, 377, 378, 380, 381, 382, 384, 385, 387, 388, 389, 391, 392, 394, 395, 396, 399, 400, 408, 411, 412, 413, 415, 416, 418, 419, 420, 421, 422, 423, 425, 426, 428, 429, 430, 431, 432, 433, 435, 436, 438, 439, 440, 441, 442, 443, 445, 446, 448, 449, 450, 451, 452, 453, 455, 456, 458, 459, 460, 461, 462, 463, 465, 466, 468, 469, 470, 472, 473, 475, 476, 477, 479, 480, 482, 483, 484, 487, 488, 489, 491, 492, 494, 495, 496, 498, 499, 501, 502, 503, 505, 506, 508, 509, 510, 512, 513, 515, 516, 517, 519, 520, 522, 523, 524, 526, 527, 529, 530, 531, 533, 534, 536, 537, 538, 540, 541, 543, 544, 545, 547, 548, 550, 551, 552, 554, 555, 557, 558, 559, 562, 563, 564, 567, 568, 569, 571, 572, 574, 575, 576, 579, 580, 581, 582, 583, 584, 585, 588, 590, 591, 593, 594, 595, 597, 598, 600, 601, 609, 610, 612, 613, 615, 616, 617, 620, 621, 622, 623, 624, 625, 627, 628, 630, 631, 632, 633, 634, 635, 637, 638, 640, 641, 642, 643, 644, 645, 647, 648, 650, 651, 652, 654, 655, 657, 658, 659, 661, 662, 664, 665, 666, 668, 669, 671, 672, 673, 675, 676, 678, 679, 680, 682, 683, 685, 686, 687, 689, 690, 692, 693, 694, 696, 697, 699, 700, 701, 703, 704, 706, 707, 708, 710, 711, 713, 714, 715, 717, 718, 720, 721, 722, 724, 725, 727, 728, 729, 731, 732, 734, 735, 736, 738, 739, 741, 742, 743, 745, 746, 748, 749, 750, 752, 753, 755, 756, 757, 759, 760, 762, 763, 764, 766, 767, 769, 770, 771, 773, 774, 776, 777, 778, 780, 781, 783, 784, 785, 786, 787, 788, 789, 792, 794, 795, 797, 798, 799, 801, 802, 804, 805, 806, 808, 809, 811, 812, 813, 815, 816, 818, 819, 820, 822, 823, 825, 826, 827, 829, 830, 832, 833, 834, 836, 837, 839, 840, 841, 843, 844, 846, 847, 848, 851, 852, 860, 863, 864, 865, 867, 868, 870, 871, 872, 873, 874, 875, 876, 878, 879, 881, 882, 883, 884, 885, 886, 888, 889, 891, 892, 893, 894, 895, 896, 898, 899, 901, 902, 903, 906, 907, 908, 911, 912, 913, 915, 916, 918, 919, 920, 922, 923, 925, 926, 927, 929, 930, 932, 933, 934, 936, 937, 939, 940, 941, 944, 945, 946, 949, 950, 951, 953, 954, 956, 957, 958, 960, 961, 963, 964, 965, 967, 968, 970, 971, 972, 974, 975, 977, 978, 979, 981, 982, 984, 985, 986, 989, 990, 991, 992, 993, 994, 995, 998, 1000, 1001, 1003, 1004, 1005, 1007, 1008, 1010, 1011, 1012, 1014, 1015, 1017, 1018, 1026, 1027, 1029, 1030, 1032, 1033, 1034, 1036, 1037, 1039, 1040, 1041, 1042, 1043, 1044, 1046, 1047, 1049, 1050, 1051, 1053, 1054, 1056, 1057, 1058, 1060, 1061, 1063, 1064, 1065, 1067, 1068, 1070, 1071, 1072, 1074, 1075, 1077, 1078, 1079, 1081, 1082, 1084, 1085, 1086, 1088, 1089, 1091, 1092, 1093, 1095, 1096, 1098, 1099, 1100, 1102, 1103, 1105, 1106, 1107, 1109, 1110, 1112, 1113, 1114, 1116, 1117, 1119, 1120, 1121, 1123, 1124, 1126, 1127, 1128, 1130, 1131, 1133, 1134, 1135, 1136, 1137, 1138, 1139, 1142, 1144, 1145, 1147, 1148, 1149, 1151, 1152, 1154, 1155, 1156, 1158, 1159, 1161, 1162, 1163, 1165, 1166, 1168, 1169, 1170, 1172, 1173, 1175, 1176, 1177, 1179, 1180, 1182, 1183, 1184, 1186, 1187, 1189, 1190, 1191, 1193, 1194, 1196, 1197, 1198, 1200, 1201, 1203, 1204, 1212, 1214, 1215, 1217, 1218, 1260, 1262, 1263, 1265, 1266, 1267, 1270, 1271, 1272, 1274, 1275, 1277, 1278, 1279, 1282, 1283, 1284, 1287, 1288, 1289, 1291, 1292, 1294, 1295, 1296, 1299, 1300, 1301, 1303, 1304, 1306, 1307]
theorem K30H.hp_eq : ∀ P, K30H.hpA = (K30H.mk.heap_1 P).map (·.1) := (fun _ _ => by kernel_rfl : (False → OpenRow.Holds (OpenLaw.row PySem.Challenge.rw_latechunks_k30_whole_small_lists_over_al)) → ∀ P, K30H.hpA = (K30H.mk.heap_1 P).map (·.1)) K30H.mk
theorem K30H.opt3 {α β γ δ : Type} {o : Option α} {f : α → β} {g : α → γ} {h : α → δ} {a : β} {b : γ} {c : δ} (h1 : o.map f = some a) (h2 : o.map g = some b) (h3 : o.map h = some c) : o.map (fun x => (f x, g x, h x)) = some (a, b, c) := by
  cases o with
  | none => cases h1
  | some x => cases h1; cases h2; cases h3; rfl
open PySem.Calls HandSHeadRun
theorem K30H.runC (w : World) : (wholeF (fun p => stepQ (denQ tabQ) p w) fenceQ 30000 (OpenLaw.row PySem.Challenge.rw_latechunks_k30_whole_small_lists_over_al).prog).map (fun x => L3.kmOb K30H.hpA [] x.2) = some ((kmHook K30H.mk.heap_1 K30H.hpA K30H.hp_eq []).val w) := by
  kernel_rfl
theorem K30H.run : ∀ w, L3.RunEqI (OpenLaw.row PySem.Challenge.rw_latechunks_k30_whole_small_lists_over_al) (view (OpenLaw.row PySem.Challenge.rw_latechunks_k30_whole_small_lists_over_al).prog [92]) (kmHook K30H.mk.heap_1 K30H.hpA K30H.hp_eq []) (L3.kmOb K30H.hpA []) 30000 L3.looseN w := fun w => K30H.opt3 (K30H.runA w) (K30H.runB w) (K30H.runC w)
set_option maxRecDepth 100000 in
set_option maxHeartbeats 0 in
theorem K30H.head : K30H.AllMk → PySem.Challenge.rw_latechunks_k30_whole_small_lists_over_al.Holds := by
  intro all_mk0
  w_on; o_law; (refine L3.head_anyI (r := (OpenLaw.row PySem.Challenge.rw_latechunks_k30_whole_small_lists_over_al)) (q := view (OpenLaw.row PySem.Challenge.rw_latechunks_k30_whole_small_lists_over_al).prog [92]) (H := kmHook K30H.mk.heap_1 K30H.hpA K30H.hp_eq []) (ob := L3.kmOb K30H.hpA []) (M := 30000) (loose := L3.looseN) (d := HandSHeadRun.topDef ((OpenLaw.row PySem.Challenge.rw_latechunks_k30_whole_small_lists_over_al)).prog 92) (kwd := []) L3.kmOb_eq K30H.run (by kernel_rfl) (by kernel_rfl) (by kernel_rfl) (by rfl) (by first | assumption | decide +kernel) (by decide +kernel) ⟨rfl, rfl, rfl, rfl, rfl, by decide +kernel⟩ ?hw ?hc); (case hw => w_witness2)
  k_fill
  refine L3.walkG (l := PySem.Challenge.rw_latechunks_k30_whole_small_lists_over_al) (n := 63) (k := 13) (x := "_law_script") (CX := fun _ => L2.CX0) rfl (by decide) (by kernel_rfl) ⟨rfl, by decide, by decide⟩ (fun w h Y => PySem.W.km_in_of Y) ?F (fun _ _ _ _ _ z => z)
  case F =>
    intro w mg fa h Y KX G hmg0
    have hmg : mg ("law" : PySem.Str) = some (.ref fa) := by
      have e : (HandSHeadRun.topDef ((OpenLaw.row PySem.Challenge.rw_latechunks_k30_whole_small_lists_over_al)).prog 92).name = ("law" : PySem.Str) := by kernel_rfl
      rw [← e]
      exact hmg0
    have all_mk := @all_mk0
    unfold K30H.AllMk at all_mk
    clear all_mk0
    refine' all_mk  KX G hmg ?a1 ?l1 ?c1 ?k1 ?a2 ?l2 ?c2 ?k2 ?a3 ?l3 ?c3 ?k3 ?a4 ?l4 ?c4 ?k4 ?a5 ?l5 ?c5 ?k5 ?a6 ?l6 ?c6 ?k6 ?a7 ?l7 ?c7 ?k7 ?a8 ?l8 ?c8 ?k8 ?a9 ?l9 ?c9 ?k9 ?a10 ?l10 ?c10 ?k10 ?a11 ?l11 ?c11 ?k11 ?a12 ?l12 ?c12 ?k12 ?a13 ?l13 ?c13 ?k13 ?a14 ?l14 ?c14 ?k14 ?a15 ?l15 ?c15 ?k15 ?a16 ?l16 ?c16 ?k16 ?a17 ?l17 ?c17 ?k17 ?a18 ?l18 ?c18 ?k18 ?a19 ?l19 ?c19 ?k19 ?a20 ?l20 ?c20 ?k20 ?a21 ?l21 ?c21 ?k21 ?a22 ?l22 ?c22 ?k22 ?a23 ?l23 ?c23 ?k23 ?a24 ?l24 ?c24 ?k24 ?a25 ?l25 ?c25 ?k25 ?a26 ?l26 ?c26 ?k26 ?a27 ?l27 ?c27 ?k27 ?a28 ?l28 ?c28 ?k28 ?a29 ?l29 ?c29 ?k29 ?a30 ?l30 ?c30 ?k30 ?a_CK ?a_CK___init__ ?l_CK___init__ ?c_CK___init__ ?k_CK___init__ ?i_CK___init__ ?mk_CK ?pg_CK ?hd_CK ?po_CK ?sa_CK ?kc_CK ?ya_CK ?yb ?yc ?yd_CK ?yk_CK ?n_CK_sizes ?n_CK_ends ?n_CK_total ?n_CK_rests ?cf1_CK ?cf2_CK ?cf3_CK ?cf5_CK ?sr_CK ?sg_CK ?sf_CK_of ?sc_CK_of ?l_CK_of ?c_CK_of ?k_CK_of ?a_CW ?a_CW___init__ ?l_CW___init__ ?c_CW___init__ ?k_CW___init__ ?i_CW___init__ ?a_CW___contains__ ?l_CW___contains__ ?c_CW___contains__ ?k_CW___contains__ ?i_CW___contains__ ?a_CW___getitem__ ?l_CW___getitem__ ?c_CW___getitem__ ?k_CW___getitem__ ?i_CW___getitem__ ?mk_CW ?pg_CW ?hd_CW ?po_CW ?sa_CW ?kc_CW ?ya_CW ?yd_CW ?yk_CW ?n_CW_own_speeds ?n_CW_workers ?n_CW_speed ?n_CW_slowest ?n_CW_fastest ?sr_CW ?sg_CW ?sf_CW_of ?sc_CW_of ?l_CW_of ?c_CW_of ?k_CW_of ?mk_CS ?a_CS ?a_CS_late_of ?l_CS_late_of ?c_CS_late_of ?k_CS_late_of ?i_CS_late_of ?pg_CS ?hd_CS ?po_CS ?sa_CS ?kc_CS ?ya_CS ?yd_CS ?yk_CS ?n_CS_crew ?n_CS_least ?n_CS_most ?n_CS_fee ?n_CS_own_slow ?n_CS_own_fast ?n_CS_lowest ?mk_CQ ?a_CQ ?a_CQ___add__ ?l_CQ___add__ ?c_CQ___add__ ?k_CQ___add__ ?i_CQ___add__ ?a_CQ___radd__ ?l_CQ___radd__ ?c_CQ___radd__ ?k_CQ___radd__ ?i_CQ___radd__ ?a_CQ___lt__ ?l_CQ___lt__ ?c_CQ___lt__ ?k_CQ___lt__ ?i_CQ___lt__ ?a_CQ___gt__ ?l_CQ___gt__ ?c_CQ___gt__ ?k_CQ___gt__ ?i_CQ___gt__ ?pg_CQ ?hd_CQ ?po_CQ ?sa_CQ ?kc_CQ ?ya_CQ ?yd_CQ ?yk_CQ ?n_CQ_over ?n_CQ_under ?cf1_CQ ?cf2_CQ ?cf3_CQ ?cf5_CQ ?a_CS___init__ ?l_CS___init__ ?c_CS___init__ ?k_CS___init__ ?i_CS___init__ ?lT_CS___init__ ?a_CQ___init__ ?l_CQ___init__ ?c_CQ___init__ ?k_CQ___init__ ?i_CQ___init__ ?lT_CQ___init__ ?a_CL ?aZB ?iZB ?tZB ?lZB ?cZB ?eZB ?sZB ?xZB ?yZB ?kZB ?qZB ?uZB ?vZB ?wZB ?mZB ?pZB ?bZB ?zS ?tS ?oB ?nZB_value ?gZB ?hZB ?dZB ?jZB ?rZB ?k1ZB ?emZB ?kVZB ?aZC ?iZC ?tZC ?lZC ?cZC ?eZC ?sZC ?xZC ?yZC ?kZC ?qZC ?uZC ?vZC ?wZC ?mZC ?pZC ?bZC ?nZC_part ?gZC ?hZC ?dZC ?jZC ?rZC ?k1ZC ?emZC ?kVZC ?aZM ?iZM ?tZM ?lZM ?cZM ?eZM ?sZM ?xZM ?yZM ?kZM ?qZM ?uZM ?vZM ?wZM ?mZM ?pZM ?bZM ?nZM_what ?nZM_most ?gZM ?hZM ?dZM ?jZM ?rZM ?k1ZM ?emZM ?kVZM ?aZN ?iZN ?tZN ?lZN ?cZN ?eZN ?sZN ?xZN ?yZN ?kZN ?qZN ?uZN ?vZN ?wZN ?mZN ?pZN ?bZN ?nZN_at ?gZN ?hZN ?dZN ?jZN ?rZN ?k1ZN ?emZN ?kVZN ?aZNa ?iZNa ?tZNa ?lZNa ?cZNa ?eZNa ?sZNa ?xZNa ?yZNa ?kZNa ?qZNa ?uZNa ?vZNa ?wZNa ?mZNa ?pZNa ?bZNa ?nZNa_value ?gZNa ?hZNa ?dZNa ?jZNa ?rZNa ?k1ZNa ?emZNa ?kVZNa ?aZSp ?iZSp ?tZSp ?lZSp ?cZSp ?eZSp ?sZSp ?xZSp ?yZSp ?kZSp ?qZSp ?uZSp ?vZSp ?wZSp ?mZSp ?pZSp ?bZSp ?nZSp_value ?gZSp ?hZSp ?dZSp ?jZSp ?rZSp ?k1ZSp ?emZSp ?kVZSp ?aZCr ?iZCr ?tZCr ?lZCr ?cZCr ?eZCr ?sZCr ?xZCr ?yZCr ?kZCr ?qZCr ?uZCr ?vZCr ?wZCr ?mZCr ?pZCr ?bZCr ?nZCr_part ?gZCr ?hZCr ?dZCr ?jZCr ?rZCr ?k1ZCr ?emZCr ?kVZCr ?aZNw ?iZNw ?tZNw ?lZNw ?cZNw ?eZNw ?sZNw ?xZNw ?yZNw ?kZNw ?qZNw ?uZNw ?vZNw ?wZNw ?mZNw ?pZNw ?bZNw ?nZNw_name ?gZNw ?hZNw ?dZNw ?jZNw ?rZNw ?k1ZNw ?emZNw ?kVZNw ?aZQ ?iZQ ?tZQ ?lZQ ?cZQ ?eZQ ?sZQ ?xZQ ?yZQ ?kZQ ?qZQ ?uZQ ?vZQ ?wZQ ?mZQ ?pZQ ?bZQ ?nZQ_value ?gZQ ?hZQ ?dZQ ?jZQ ?rZQ ?k1ZQ ?emZQ ?kVZQ ?aZRe ?iZRe ?tZRe ?lZRe ?cZRe ?eZRe ?sZRe ?xZRe ?yZRe ?kZRe ?qZRe ?uZRe ?vZRe ?wZRe ?mZRe ?pZRe ?bZRe ?nZRe_value ?gZRe ?hZRe ?dZRe ?jZRe ?rZRe ?k1ZRe ?emZRe ?kVZRe ?aZSe ?iZSe ?tZSe ?lZSe ?cZSe ?eZSe ?sZSe ?xZSe ?yZSe ?kZSe ?qZSe ?uZSe ?vZSe ?wZSe ?mZSe ?pZSe ?bZSe ?nZSe_part ?gZSe ?hZSe ?dZSe ?jZSe ?rZSe ?k1ZSe ?emZSe ?kVZSe ?aZCo ?iZCo ?tZCo ?lZCo ?cZCo ?eZCo ?sZCo ?xZCo ?yZCo ?kZCo ?qZCo ?uZCo ?vZCo ?wZCo ?mZCo ?pZCo ?bZCo ?nZCo_value ?gZCo ?hZCo ?dZCo ?jZCo ?rZCo ?k1ZCo ?emZCo ?kVZCo ?aZFe ?iZFe ?tZFe ?lZFe ?cZFe ?eZFe ?sZFe ?xZFe ?yZFe ?kZFe ?qZFe ?uZFe ?vZFe ?wZFe ?mZFe ?pZFe ?bZFe ?nZFe_value ?gZFe ?hZFe ?dZFe ?jZFe ?rZFe ?k1ZFe ?emZFe ?kVZFe ?aZT ?iZT ?tZT ?lZT ?cZT ?eZT ?sZT ?xZT ?yZT ?kZT ?qZT ?uZT ?vZT ?wZT ?mZT ?pZT ?bZT ?nZT_line ?nZT_word ?gZT ?hZT ?dZT ?jZT ?rZT ?k1ZT ?emZT ?kVZT ?kMW ?kWM ?kCI ?kCS ?kCLT ?kTC ?gMS ?gMC ?gMI ?gMF ?digs ?gWo ?lWo ?gSi ?gSp ?gMW ?gCo ?gFe ?yoQ ?yiQ ?sfQ ?mrQ ?sIQ ?sBQ ?oQ_add ?vQ_add ?uQ_add ?xQ_add ?ns_CW ?fi_CW ?z_isinstance ?z_int ?z_bool ?z_len ?z_abs ?z_list ?z_tuple ?z_range ?z_repr ?z_str ?z_zip ?z_min ?z_max ?z_all ?z_any ?z_sorted ?z_enumerate ?z_ValueError ?z_dict ?z_sum ?z_set ?z_iter ?hPd0
    (case a1 => k_is)
    (case l1 => k_is)
    (case c1 => k_is)
    (case k1 => k_is)
    (case a2 => k_is)
    (case l2 => k_is)
    (case c2 => k_is)
    (case k2 => k_is)
    (case a3 => k_is)
    (case l3 => k_is)
    (case c3 => k_is)
    (case k3 => k_is)
    (case a4 => k_is)
    (case l4 => k_is)
    (case c4 => k_is)
    (case k4 => k_is)
    (case a5 => k_is)
    (case l5 => k_is)
    (case c5 => k_is)
    (case k5 => k_is)
    (case a6 => k_is)
    (case l6 => k_is)
    (case c6 => k_is)
    (case k6 => k_is)
    (case a7 => k_is)
    (case l7 => k_is)
    (case c7 => k_is)
    (case k7 => k_is)
    (case a8 => k_is)
    (case l8 => k_is)
    (case c8 => k_is)
    (case k8 => k_is)
    (case a9 => k_is)
    (case l9 => k_is)
    (case c9 => k_is)
    (case k9 => k_is)
    (case a10 => k_is)
    (case l10 => k_is)
    (case c10 => k_is)
    (case k10 => k_is)
    (case a11 => k_is)
    (case l11 => k_is)
    (case c11 => k_is)
    (case k11 => k_is)
    (case a12 => k_is)
    (case l12 => k_is)
    (case c12 => k_is)
    (case k12 => k_is)
    (case a13 => k_is)
    (case l13 => k_is)
    (case c13 => k_is)
    (case k13 => k_is)
    (case a14 => k_is)
    (case l14 => k_is)
    (case c14 => k_is)
    (case k14 => k_is)
    (case a15 => k_is)
    (case l15 => k_is)
    (case c15 => k_is)
    (case k15 => k_is)
    (case a16 => k_is)
    (case l16 => k_is)
    (case c16 => k_is)
    (case k16 => k_is)
    (case a17 => k_is)
    (case l17 => k_is)
    (case c17 => k_is)
    (case k17 => k_is)
    (case a18 => k_is)
    (case l18 => k_is)
    (case c18 => k_is)
    (case k18 => k_is)
    (case a19 => k_is)
    (case l19 => k_is)
    (case c19 => k_is)
    (case k19 => k_is)
    (case a20 => k_is)
    (case l20 => k_is)
    (case c20 => k_is)
    (case k20 => k_is)
    (case a21 => k_is)
    (case l21 => k_is)
    (case c21 => k_is)
    (case k21 => k_is)
    (case a22 => k_is)
    (case l22 => k_is)
    (case c22 => k_is)
    (case k22 => k_is)
    (case a23 => k_is)
    (case l23 => k_is)
    (case c23 => k_is)
    (case k23 => k_is)
    (case a24 => k_is)
    (case l24 => k_is)
    (case c24 => k_is)
    (case k24 => k_is)
    (case a25 => k_is)
    (case l25 => k_is)
    (case c25 => k_is)
    (case k25 => k_is)
    (case a26 => k_is)
    (case l26 => k_is)
    (case c26 => k_is)
    (case k26 => k_is)
    (case a27 => k_is)
    (case l27 => k_is)
    (case c27 => k_is)
    (case k27 => k_is)
    (case a28 => k_is)
    (case l28 => k_is)
    (case c28 => k_is)
    (case k28 => k_is)
    (case a29 => k_is)
    (case l29 => k_is)
    (case c29 => k_is)
    (case k29 => k_is)
    (case a30 => k_is)
    (case l30 => k_is)
    (case c30 => k_is)
    (case k30 => k_is)
    (case a_CK => k_is)
    (case a_CK___init__ => k_is)
    (case l_CK___init__ => k_is)
    (case c_CK___init__ => k_is)
    (case k_CK___init__ => k_is)
    (case i_CK___init__ => k_is)
    (case pg_CK => k_is)
    (case hd_CK => k_is)
    (case po_CK => k_is)
    (case sa_CK => k_is)
    (case kc_CK => k_is)
    (case ya_CK => k_is)
    (case yb => k_is)
    (case yc => k_is)
    (case yd_CK => k_is)
    (case yk_CK => kernel_rfl)
    (case n_CK_sizes => k_is)
    (case n_CK_ends => k_is)
    (case n_CK_total => k_is)
    (case n_CK_rests => k_is)
    (case cf1_CK => kernel_rfl)
    (case cf2_CK => first | k_is | kernel_rfl)
    (case cf3_CK => kernel_rfl)
    (case cf5_CK => k_is)
    (case sr_CK => k_is)
    (case sg_CK => k_is)
    (case sf_CK_of => k_is)
    (case sc_CK_of => k_is)
    (case l_CK_of => k_is)
    (case c_CK_of => k_is)
    (case k_CK_of => k_is)
    (case a_CW => k_is)
    (case a_CW___init__ => k_is)
    (case l_CW___init__ => k_is)
    (case c_CW___init__ => k_is)
    (case k_CW___init__ => k_is)
    (case i_CW___init__ => k_is)
    (case a_CW___contains__ => k_is)
    (case l_CW___contains__ => k_is)
    (case c_CW___contains__ => k_is)
    (case k_CW___contains__ => k_is)
    (case i_CW___contains__ => k_is)
    (case a_CW___getitem__ => k_is)
    (case l_CW___getitem__ => k_is)
    (case c_CW___getitem__ => k_is)
    (case k_CW___getitem__ => k_is)
    (case i_CW___getitem__ => k_is)
    (case pg_CW => k_is)
    (case hd_CW => k_is)
    (case po_CW => k_is)
    (case sa_CW => k_is)
    (case kc_CW => k_is)
    (case ya_CW => k_is)
    (case yd_CW => k_is)
    (case yk_CW => kernel_rfl)
    (case n_CW_own_speeds => k_is)
    (case n_CW_workers => k_is)
    (case n_CW_speed => k_is)
    (case n_CW_slowest => k_is)
    (case n_CW_fastest => k_is)
    (case sr_CW => k_is)
    (case sg_CW => k_is)
    (case sf_CW_of => k_is)
    (case sc_CW_of => k_is)
    (case l_CW_of => k_is)
    (case c_CW_of => k_is)
    (case k_CW_of => k_is)
    (case a_CS => k_is)
    (case a_CS_late_of => k_is)
    (case l_CS_late_of => k_is)
    (case c_CS_late_of => k_is)
    (case k_CS_late_of => k_is)
    (case i_CS_late_of => k_is)
    (case pg_CS => k_is)
    (case hd_CS => k_is)
    (case po_CS => k_is)
    (case sa_CS => k_is)
    (case kc_CS => k_is)
    (case ya_CS => k_is)
    (case yd_CS => k_is)
    (case yk_CS => kernel_rfl)
    (case n_CS_crew => k_is)
    (case n_CS_least => k_is)
    (case n_CS_most => k_is)
    (case n_CS_fee => k_is)
    (case n_CS_own_slow => k_is)
    (case n_CS_own_fast => k_is)
    (case n_CS_lowest => k_is)
    (case a_CQ => k_is)
    (case a_CQ___add__ => k_is)
    (case l_CQ___add__ => k_is)
    (case c_CQ___add__ => k_is)
    (case k_CQ___add__ => k_is)
    (case i_CQ___add__ => k_is)
    (case a_CQ___radd__ => k_is)
    (case l_CQ___radd__ => k_is)
    (case c_CQ___radd__ => k_is)
    (case k_CQ___radd__ => k_is)
    (case i_CQ___radd__ => k_is)
    (case a_CQ___lt__ => k_is)
    (case l_CQ___lt__ => k_is)
    (case c_CQ___lt__ => k_is)
    (case k_CQ___lt__ => k_is)
    (case i_CQ___lt__ => k_is)
    (case a_CQ___gt__ => k_is)
    (case l_CQ___gt__ => k_is)
    (case c_CQ___gt__ => k_is)
    (case k_CQ___gt__ => k_is)
    (case i_CQ___gt__ => k_is)
    (case pg_CQ => k_is)
    (case hd_CQ => k_is)
    (case po_CQ => k_is)
    (case sa_CQ => k_is)
    (case kc_CQ => k_is)
    (case ya_CQ => k_is)
    (case yd_CQ => k_is)
    (case yk_CQ => kernel_rfl)
    (case n_CQ_over => k_is)
    (case n_CQ_under => k_is)
    (case cf1_CQ => kernel_rfl)
    (case cf2_CQ => first | k_is | kernel_rfl)
    (case cf3_CQ => kernel_rfl)
    (case cf5_CQ => k_is)
    (case a_CS___init__ => k_is)
    (case l_CS___init__ => k_is)
    (case c_CS___init__ => k_is)
    (case k_CS___init__ => k_is)
    (case i_CS___init__ => k_is)
    (case lT_CS___init__ => k_is)
    (case a_CQ___init__ => k_is)
    (case l_CQ___init__ => k_is)
    (case c_CQ___init__ => k_is)
    (case k_CQ___init__ => k_is)
    (case i_CQ___init__ => k_is)
    (case lT_CQ___init__ => k_is)
    (case a_CL => k_is)
    (case aZB => k_is)
    (case iZB => k_is)
    (case tZB => k_is)
    (case lZB => k_is)
    (case cZB => k_is)
    (case eZB => exact ⟨_, _, _, _, _, _, _, _, _, _, _, _, _, _, _, by k_is, by decide +kernel⟩)
    (case sZB => k_is)
    (case xZB => k_is)
    (case yZB => k_is)
    (case kZB => k_is)
    (case qZB => k_is)
    (case uZB => k_is)
    (case vZB => rfl)
    (case wZB => first | rfl | decide +kernel)
    (case mZB => k_is)
    (case pZB => first | k_is | kernel_rfl)
    (case bZB => k_is)
    (case zS => k_is)
    (case tS => first | rfl | decide +kernel | kernel_rfl)
    (case oB => k_is)
    (case nZB_value => k_is)
    (case gZB => k_is)
    (case hZB => k_is)
    (case dZB => k_is)
    (case jZB => k_is)
    (case rZB => k_is)
    (case k1ZB => kernel_rfl)
    (case emZB => kernel_rfl)
    (case kVZB => kernel_rfl)
    (case aZC => k_is)
    (case iZC => k_is)
    (case tZC => k_is)
    (case lZC => k_is)
    (case cZC => k_is)
    (case eZC => exact ⟨_, _, _, _, _, _, _, _, _, _, _, _, _, _, _, by k_is, by decide +kernel⟩)
    (case sZC => k_is)
    (case xZC => k_is)
    (case yZC => k_is)
    (case kZC => k_is)
    (case qZC => k_is)
    (case uZC => k_is)
    (case vZC => rfl)
    (case wZC => first | rfl | decide +kernel)
    (case mZC => k_is)
    (case pZC => first | k_is | kernel_rfl)
    (case bZC => k_is)
    (case nZC_part => k_is)
    (case gZC => k_is)
    (case hZC => k_is)
    (case dZC => k_is)
    (case jZC => k_is)
    (case rZC => k_is)
    (case k1ZC => kernel_rfl)
    (case emZC => kernel_rfl)
    (case kVZC => kernel_rfl)
    (case aZM => k_is)
    (case iZM => k_is)
    (case tZM => k_is)
    (case lZM => k_is)
    (case cZM => k_is)
    (case eZM => exact ⟨_, _, _, _, _, _, _, _, _, _, _, _, _, _, _, by k_is, by decide +kernel⟩)
    (case sZM => k_is)
    (case xZM => k_is)
    (case yZM => k_is)
    (case kZM => k_is)
    (case qZM => k_is)
    (case uZM => k_is)
    (case vZM => rfl)
    (case wZM => first | rfl | decide +kernel)
    (case mZM => k_is)
    (case pZM => first | k_is | kernel_rfl)
    (case bZM => k_is)
    (case nZM_what => k_is)
    (case nZM_most => k_is)
    (case gZM => k_is)
    (case hZM => k_is)
    (case dZM => k_is)
    (case jZM => k_is)
    (case rZM => k_is)
    (case k1ZM => kernel_rfl)
    (case emZM => kernel_rfl)
    (case kVZM => kernel_rfl)
    (case aZN => k_is)
    (case iZN => k_is)
    (case tZN => k_is)
    (case lZN => k_is)
    (case cZN => k_is)
    (case eZN => exact ⟨_, _, _, _, _, _, _, _, _, _, _, _, _, _, _, by k_is, by decide +kernel⟩)
    (case sZN => k_is)
    (case xZN => k_is)
    (case yZN => k_is)
    (case kZN => k_is)
    (case qZN => k_is)
    (case uZN => k_is)
    (case vZN => rfl)
    (case wZN => first | rfl | decide +kernel)
    (case mZN => k_is)
    (case pZN => first | k_is | kernel_rfl)
    (case bZN => k_is)
    (case nZN_at => k_is)
    (case gZN => k_is)
    (case hZN => k_is)
    (case dZN => k_is)
    (case jZN => k_is)
    (case rZN => k_is)
    (case k1ZN => kernel_rfl)
    (case emZN => kernel_rfl)
    (case kVZN => kernel_rfl)
    (case aZNa => k_is)
    (case iZNa => k_is)
    (case tZNa => k_is)
    (case lZNa => k_is)
    (case cZNa => k_is)
    (case eZNa => exact ⟨_, _, _, _, _, _, _, _, _, _, _, _, _, _, _, by k_is, by decide +kernel⟩)
    (case sZNa => k_is)
    (case xZNa => k_is)
    (case yZNa => k_is)
    (case kZNa => k_is)
    (case qZNa => k_is)
    (case uZNa => k_is)
    (case vZNa => rfl)
    (case wZNa => first | rfl | decide +kernel)
    (case mZNa => k_is)
    (case pZNa => first | k_is | kernel_rfl)
    (case bZNa => k_is)
    (case nZNa_value => k_is)
    (case gZNa => k_is)
    (case hZNa => k_is)
    (case dZNa => k_is)
    (case jZNa => k_is)
    (case rZNa => k_is)
    (case k1ZNa => kernel_rfl)
    (case emZNa => kernel_rfl)
    (case kVZNa => kernel_rfl)
    (case aZSp => k_is)
    (case iZSp => k_is)
    (case tZSp => k_is)
    (case lZSp => k_is)
    (case cZSp => k_is)
    (case eZSp => exact ⟨_, _, _, _, _, _, _, _, _, _, _, _, _, _, _, by k_is, by decide +kernel⟩)
    (case sZSp => k_is)
    (case xZSp => k_is)
    (case yZSp => k_is)
    (case kZSp => k_is)
    (case qZSp => k_is)
    (case uZSp => k_is)
    (case vZSp => rfl)
    (case wZSp => first | rfl | decide +kernel)
    (case mZSp => k_is)
    (case pZSp => first | k_is | kernel_rfl)
    (case bZSp => k_is)
    (case nZSp_value => k_is)
    (case gZSp => k_is)
    (case hZSp => k_is)
    (case dZSp => k_is)
    (case jZSp => k_is)
    (case rZSp => k_is)
    (case k1ZSp => kernel_rfl)
    (case emZSp => kernel_rfl)
    (case kVZSp => kernel_rfl)
    (case aZCr => k_is)
    (case iZCr => k_is)
    (case tZCr => k_is)
    (case lZCr => k_is)
    (case cZCr => k_is)
    (case eZCr => exact ⟨_, _, _, _, _, _, _, _, _, _, _, _, _, _, _, by k_is, by decide +kernel⟩)
    (case sZCr => k_is)
    (case xZCr => k_is)
    (case yZCr => k_is)
    (case kZCr => k_is)
    (case qZCr => k_is)
    (case uZCr => k_is)
    (case vZCr => rfl)
    (case wZCr => first | rfl | decide +kernel)
    (case mZCr => k_is)
    (case pZCr => first | k_is | kernel_rfl)
    (case bZCr => k_is)
    (case nZCr_part => k_is)
    (case gZCr => k_is)
    (case hZCr => k_is)
    (case dZCr => k_is)
    (case jZCr => k_is)
    (case rZCr => k_is)
    (case k1ZCr => kernel_rfl)
    (case emZCr => kernel_rfl)
    (case kVZCr => kernel_rfl)
    (case aZNw => k_is)
    (case iZNw => k_is)
    (case tZNw => k_is)
    (case lZNw => k_is)
    (case cZNw => k_is)
    (case eZNw => exact ⟨_, _, _, _, _, _, _, _, _, _, _, _, _, _, _, by k_is, by decide +kernel⟩)
    (case sZNw => k_is)
    (case xZNw => k_is)
    (case yZNw => k_is)
    (case kZNw => k_is)
    (case qZNw => k_is)
    (case uZNw => k_is)
    (case vZNw => rfl)
    (case wZNw => first | rfl | decide +kernel)
    (case mZNw => k_is)
    (case pZNw => first | k_is | kernel_rfl)
    (case bZNw => k_is)
    (case nZNw_name => k_is)
    (case gZNw => k_is)
    (case hZNw => k_is)
    (case dZNw => k_is)
    (case jZNw => k_is)
    (case rZNw => k_is)
    (case k1ZNw => kernel_rfl)
    (case emZNw => kernel_rfl)
    (case kVZNw => kernel_rfl)
    (case aZQ => k_is)
    (case iZQ => k_is)
    (case tZQ => k_is)
    (case lZQ => k_is)
    (case cZQ => k_is)
    (case eZQ => exact ⟨_, _, _, _, _, _, _, _, _, _, _, _, _, _, _, by k_is, by decide +kernel⟩)
    (case sZQ => k_is)
    (case xZQ => k_is)
    (case yZQ => k_is)
    (case kZQ => k_is)
    (case qZQ => k_is)
    (case uZQ => k_is)
    (case vZQ => rfl)
    (case wZQ => first | rfl | decide +kernel)
    (case mZQ => k_is)
    (case pZQ => first | k_is | kernel_rfl)
    (case bZQ => k_is)
    (case nZQ_value => k_is)
    (case gZQ => k_is)
    (case hZQ => k_is)
    (case dZQ => k_is)
    (case jZQ => k_is)
    (case rZQ => k_is)
    (case k1ZQ => kernel_rfl)
    (case emZQ => kernel_rfl)
    (case kVZQ => kernel_rfl)
    (case aZRe => k_is)
    (case iZRe => k_is)
    (case tZRe => k_is)
    (case lZRe => k_is)
    (case cZRe => k_is)
    (case eZRe => exact ⟨_, _, _, _, _, _, _, _, _, _, _, _, _, _, _, by k_is, by decide +kernel⟩)
    (case sZRe => k_is)
    (case xZRe => k_is)
    (case yZRe => k_is)
    (case kZRe => k_is)
    (case qZRe => k_is)
    (case uZRe => k_is)
    (case vZRe => rfl)
    (case wZRe => first | rfl | decide +kernel)
    (case mZRe => k_is)
    (case pZRe => first | k_is | kernel_rfl)
    (case bZRe => k_is)
    (case nZRe_value => k_is)
    (case gZRe => k_is)
    (case hZRe => k_is)
    (case dZRe => k_is)
    (case jZRe => k_is)
    (case rZRe => k_is)
    (case k1ZRe => kernel_rfl)
    (case emZRe => kernel_rfl)
    (case kVZRe => kernel_rfl)
    (case aZSe => k_is)
    (case iZSe => k_is)
    (case tZSe => k_is)
    (case lZSe => k_is)
    (case cZSe => k_is)
    (case eZSe => exact ⟨_, _, _, _, _, _, _, _, _, _, _, _, _, _, _, by k_is, by decide +kernel⟩)
    (case sZSe => k_is)
    (case xZSe => k_is)
    (case yZSe => k_is)
    (case kZSe => k_is)
    (case qZSe => k_is)
    (case uZSe => k_is)
    (case vZSe => rfl)
    (case wZSe => first | rfl | decide +kernel)
    (case mZSe => k_is)
    (case pZSe => first | k_is | kernel_rfl)
    (case bZSe => k_is)
    (case nZSe_part => k_is)
    (case gZSe => k_is)
    (case hZSe => k_is)
    (case dZSe => k_is)
    (case jZSe => k_is)
    (case rZSe => k_is)
    (case k1ZSe => kernel_rfl)
    (case emZSe => kernel_rfl)
    (case kVZSe => kernel_rfl)
    (case aZCo => k_is)
    (case iZCo => k_is)
    (case tZCo => k_is)
    (case lZCo => k_is)
    (case cZCo => k_is)
    (case eZCo => exact ⟨_, _, _, _, _, _, _, _, _, _, _, _, _, _, _, by k_is, by decide +kernel⟩)
    (case sZCo => k_is)
    (case xZCo => k_is)
    (case yZCo => k_is)
    (case kZCo => k_is)
    (case qZCo => k_is)
    (case uZCo => k_is)
    (case vZCo => rfl)
    (case wZCo => first | rfl | decide +kernel)
    (case mZCo => k_is)
    (case pZCo => first | k_is | kernel_rfl)
    (case bZCo => k_is)
    (case nZCo_value => k_is)
    (case gZCo => k_is)
    (case hZCo => k_is)
    (case dZCo => k_is)
    (case jZCo => k_is)
    (case rZCo => k_is)
    (case k1ZCo => kernel_rfl)
    (case emZCo => kernel_rfl)
    (case kVZCo => kernel_rfl)
    (case aZFe => k_is)
    (case iZFe => k_is)
    (case tZFe => k_is)
    (case lZFe => k_is)
    (case cZFe => k_is)
    (case eZFe => exact ⟨_, _, _, _, _, _, _, _, _, _, _, _, _, _, _, by k_is, by decide +kernel⟩)
    (case sZFe => k_is)
    (case xZFe => k_is)
    (case yZFe => k_is)
    (case kZFe => k_is)
    (case qZFe => k_is)
    (case uZFe => k_is)
    (case vZFe => rfl)
    (case wZFe => first | rfl | decide +kernel)
    (case mZFe => k_is)
    (case pZFe => first | k_is | kernel_rfl)
    (case bZFe => k_is)
    (case nZFe_value => k_is)
    (case gZFe => k_is)
    (case hZFe => k_is)
    (case dZFe => k_is)
    (case jZFe => k_is)
    (case rZFe => k_is)
    (case k1ZFe => kernel_rfl)
    (case emZFe => kernel_rfl)
    (case kVZFe => kernel_rfl)
    (case aZT => k_is)
    (case iZT => k_is)
    (case tZT => k_is)
    (case lZT => k_is)
    (case cZT => k_is)
    (case eZT => exact ⟨_, _, _, _, _, _, _, _, _, _, _, _, _, _, _, by k_is, by decide +kernel⟩)
    (case sZT => k_is)
    (case xZT => k_is)
    (case yZT => k_is)
    (case kZT => k_is)
    (case qZT => k_is)
    (case uZT => k_is)
    (case vZT => rfl)
    (case wZT => first | rfl | decide +kernel)
    (case mZT => k_is)
    (case pZT => first | k_is | kernel_rfl)
    (case bZT => k_is)
    (case nZT_line => k_is)
    (case nZT_word => k_is)
    (case gZT => k_is)
    (case hZT => k_is)
    (case dZT => k_is)
    (case jZT => k_is)
    (case rZT => k_is)
    (case k1ZT => kernel_rfl)
    (case emZT => kernel_rfl)
    (case kVZT => kernel_rfl)
    (case kMW => kernel_rfl)
    (case kWM => kernel_rfl)
    (case kCI => kernel_rfl)
    (case kCS => kernel_rfl)
    (case kCLT => kernel_rfl)
    (case kTC => kernel_rfl)
    (case gMS => k_is)
    (case gMC => k_is)
    (case gMI => k_is)
    (case gMF => k_is)
    (case digs => k_is)
    (case gWo => k_is)
    (case lWo => k_is)
    (case gSi => k_is)
    (case gSp => k_is)
    (case gMW => k_is)
    (case gCo => k_is)
    (case gFe => k_is)
    (case yoQ => kernel_rfl)
    (case yiQ => kernel_rfl)
    (case sfQ => k_is)
    (case mrQ => kernel_rfl)
    (case sIQ => k_is)
    (case sBQ => k_is)
    (case oQ_add => kernel_rfl)
    (case vQ_add => first | k_is | kernel_rfl)
    (case uQ_add => first | k_is | kernel_rfl)
    (case xQ_add => first | k_is | kernel_rfl)
    (case ns_CW => first | k_is | kernel_rfl)
    (case fi_CW => first | k_is | kernel_rfl)
    (case z_isinstance => k_is)
    (case z_int => k_is)
    (case z_bool => k_is)
    (case z_len => k_is)
    (case z_abs => k_is)
    (case z_list => k_is)
    (case z_tuple => k_is)
    (case z_range => k_is)
    (case z_repr => k_is)
    (case z_str => k_is)
    (case z_zip => k_is)
    (case z_min => k_is)
    (case z_max => k_is)
    (case z_all => k_is)
    (case z_any => k_is)
    (case z_sorted => k_is)
    (case z_enumerate => k_is)
    (case z_ValueError => k_is)
    (case z_dict => k_is)
    (case z_sum => k_is)
    (case z_set => k_is)
    (case z_iter => k_is)
    (case hPd0 => exact List.nodup_nil)
    (case mk_CK => k_is)
    (case mk_CW => k_is)
    (case mk_CS => k_is)
    (case mk_CQ => k_is)
end
section
namespace L3
open PySem PySem.Spec PyProof.Rows L2 LamX
namespace KX
variable {X : Cx} {K : PySem.W.Frag} (hK : X.K = K)
include hK
theorem tup {es : List Expr} {k : Nat} {t : TGs} {n : Nat} {pos : Pos} (hc : X.calm = true) (h : PGs X es t)
    (hn : (assignEach es X.env).length = n := by rfl) (hst : (assignEach es X.env).findIdx? (·.1) = none := by rfl) : PG X (.Tuple es k pos) (gTup K n t) := by subst hK; exact pg_tup hc h hn hst
end KX
section
variable {K : PySem.W.Frag} {σ : L2.St} {H : Hp} {Q : VK} {D : Ends} {C : Addr} {o u : Int} {te ta : TE}
theorem s_par3 {i j l : Nat} {tt : TA} (h : tt σ H fun vs H1 => ∃ u v w, vs = [u, v, w] ∧ D.nx (((σ.set i (some u)).set j (some v)).set l (some w)) H1) : tPar3 i j l tt D σ H := h
theorem s_trip {R : V → V → V → Prop} {x y z : V} (h : R x y z) : ∃ u v w, [x, y, z] = [u, v, w] ∧ R u v w := ⟨x, y, z, rfl, h⟩
theorem s_aug {i : Nat} {ti : TIp} {x : V} (e : σ[i]? = some (some x)) (h : te σ H fun y H1 => ti x y H1 fun z H2 => D.nx (σ.set i (some z)) H2) : tAug i te ti D σ H := ⟨x, e, h⟩
theorem s_asgT' {n : Nat} {tg : TGs} (h : te σ H fun x H1 => gTup K n tg x σ H1 D.nx) : tAsg te (gTup K n tg) D σ H := h
theorem s_gT {a : Addr} {xs : List V} {n : Nat} {tg : TGs} {R : L2.St → Hp → Prop} (e : H a = some (.tup xs)) (hn : xs.length = n) (h : tg xs σ H R) : gTup K n tg (.ref a) σ H R := ⟨a, xs, rfl, .inl (.inl e), hn, h⟩
theorem s_gC {i : Nat} {v : V} {r : List V} {tg : TGs} {R : L2.St → Hp → Prop} (h : tg r (σ.set i (some v)) H R) : gCons (gName i) tg (v :: r) σ H R := ⟨v, r, rfl, h⟩
theorem s_gN {R : L2.St → Hp → Prop} (h : R σ H) : gNil [] σ H R := ⟨rfl, h⟩
theorem s_fldG {f : Str} (h : ta σ H fun x H1 => ∃ a C dx fs v, x = .ref a ∧ H1 a = some (.ins C dx fs) ∧ Cls K C ∧ NoAttr K C f ∧ fs.lookup f = some v ∧ Q v H1) : tFld K ta f σ H Q := h
theorem s_mulW {i j : Int} {k l : Nat} (hi : i.natAbs < 2 ^ k) (hj : j.natAbs < 2 ^ l) (hk : 0 < k) (hl : 0 < l) (hkl : k + l ≤ 900000) (h : Q (.int (i * j)) H) : rMulU (.int i) (.int j) H Q := s_mulI (wide_mul hi hj hk hl (by omega)).ok h
theorem s_xfV {n : Str} (h : te σ H fun x H1 => ∃ (a C d : Addr) (fs : List (Str × V)) (v : V), x = .ref a ∧ H1 a = some (ExV a (.ref C) (some d)) ∧ H1 d = some (.xd fs) ∧ XfC K C ∧ PySem.W.findIn K (.ref C) n = some none ∧ fs.lookup n = some v ∧ Q v H1) : tXfV K n te σ H Q := h
/-- a def's data stay -/
theorem Dp.exN {H' : Hp} (e : ExtN H H') : ∀ (d : PyData) (v : V), (∀ a xs, SqL K H a xs → SqL K H' a xs) → (∀ a xs, SqT K H a xs → SqT K H' a xs) → Dp K H v d → Dp K H' v d := by
  intro d v h1 h2 h
  induction h using Dp.rec (motive_2 := fun vs ds _ => DpAll K H' vs ds) with
  | non => exact .non
  | bl b => exact .bl b
  | int i => exact .int i
  | str z => exact .str z
  | lst a _ b => exact .lst (h1 _ _ a) b
  | tup a _ b => exact .tup (h2 _ _ a) b
  | nil => exact .nil
  | cons _ _ a b => exact .cons a b
theorem penO_tbl {a c : Addr} {n : Nat} : ∀ ps, PenO a c n ≠ .tbl ps := fun _ z => by unfold PenO at z; cases z
theorem scO_tbl {c : Addr} {ns : List Int} : ∀ ps, ScO c ns ≠ .tbl ps := fun _ z => by unfold ScO at z; cases z
theorem Pen.exN {H' : Hp} {a : Addr} {n : Nat} (p : Pen H a n) (e : ExtN H H') : Pen H' a n := by
  obtain ⟨c, ns, h1, h2, h3⟩ := p
  exact ⟨c, ns, e _ _ h1 penO_tbl, e _ _ h2 scO_tbl, h3⟩
theorem Pen.ex {H' : Hp} {a : Addr} {n : Nat} (p : Pen H a n) (e : Ex H H') : Pen H' a n := Pen.exN p e.n
theorem Pen.at {a : Addr} {n : Nat} (p : Pen H a n) : ∃ c, H a = some (PenO a c n) := by
  obtain ⟨c, ns, h1, _⟩ := p
  exact ⟨c, h1⟩
theorem Wo.exN {T : List (Addr × Str)} {H' : Hp} {a : Addr} {n : Nat} (w : Wo T H a n) (e : ExtN H H') (t : Tabs T H') : Wo T H' a n := ⟨Pen.exN w.pen e, t⟩
/-- a tuple of two ints -/
def Pr (H : Hp) (v : V) (a b : Int) : Prop := ∃ p, v = .ref p ∧ H p = some (.tup [.int a, .int b])
theorem Pr.exN {H' : Hp} {v : V} {a b : Int} (h : Pr H v a b) (e : ExtN H H') : Pr H' v a b := by
  obtain ⟨p, rfl, h⟩ := h
  exact ⟨p, rfl, e _ _ h fun _ z => nomatch z⟩
theorem Pr.ex {H' : Hp} {v : V} {a b : Int} (h : Pr H v a b) (e : Ex H H') : Pr H' v a b := h.exN e.n
theorem Pr.dp {v : V} {a b : Int} (h : Pr H v a b) : Dp K H v (.tuple [.int a, .int b]) := by
  obtain ⟨p, rfl, h⟩ := h
  exact .tup (.inl (.inl h)) (.cons (.int a) (.cons (.int b) .nil))
end
end L3
end
section
namespace L3
open PySem PySem.Spec PyProof.Rows L2 LamX
section
variable {K : PySem.W.Frag} {σ : L2.St} {H H' : Hp} {Q : VK} {C CB : Addr}
inductive Prs (H : Hp) : List V → List (Int × Int) → Prop
  | nil : Prs H [] []
  | cons {v : V} {vs : List V} {q : Int × Int} {qs : List (Int × Int)} : Pr H v q.1 q.2 → Prs H vs qs → Prs H (v :: vs) (q :: qs)
theorem Prs.exN {vs : List V} {qs : List (Int × Int)} (h : Prs H vs qs) (e : ExtN H H') : Prs H' vs qs := by
  induction h with
  | nil => exact .nil
  | cons a _ b => exact .cons (a.exN e) b
theorem Prs.ex {vs : List V} {qs : List (Int × Int)} (h : Prs H vs qs) (e : Ex H H') : Prs H' vs qs := h.exN e.n
theorem Pr.up {v : V} {a b : Int} {D : Addr} {xs zs : List V} (h : Pr H v a b) (hd : H D = some (.lst xs)) : Pr (upd H D (.lst zs)) v a b := by
  obtain ⟨p, rfl, h⟩ := h
  refine ⟨p, rfl, ?_⟩
  rw [upd_ne (ne_of h hd (by intro z; cases z))]
  exact h
theorem Prs.up {vs : List V} {qs : List (Int × Int)} {D : Addr} {xs zs : List V} (h : Prs H vs qs) (hd : H D = some (.lst xs)) : Prs (upd H D (.lst zs)) vs qs := by
  induction h with
  | nil => exact .nil
  | cons a _ b => exact .cons (a.up hd) b
theorem Prs.get {vs : List V} {qs : List (Int × Int)} (h : Prs H vs qs) : ∀ {i : Nat} {x : V}, vs[i]? = some x → ∃ q, qs[i]? = some q ∧ Pr H x q.1 q.2 := by
  induction h with
  | nil => intro i x e; simp at e
  | cons a _ b =>
    intro i x e
    cases i with
    | zero => cases e; exact ⟨_, rfl, a⟩
    | succ i => exact b (by simpa using e)
theorem Prs.length {vs : List V} {qs : List (Int × Int)} (h : Prs H vs qs) : vs.length = qs.length := by
  induction h with
  | nil => rfl
  | cons _ _ b => simp [b]
theorem Prs.snoc {vs : List V} {qs : List (Int × Int)} {v : V} {q : Int × Int} (h : Prs H vs qs) (a : Pr H v q.1 q.2) : Prs H (vs ++ [v]) (qs ++ [q]) := by
  induction h with
  | nil => exact .cons a .nil
  | cons b _ c => exact .cons b c
def prD (qs : List (Int × Int)) : List PyData := qs.map fun q => .tuple [.int q.1, .int q.2]
theorem Prs.dp {vs : List V} {qs : List (Int × Int)} (h : Prs H vs qs) : DpAll K H vs (prD qs) := by
  induction h with
  | nil => exact .nil
  | cons a _ b => exact .cons a.dp b
theorem s_lcL {te ta : TE} {g : TG} {tt : TT} {vs : List Nat} (h : ta σ H fun x H1 => ∃ a, x = .ref a ∧ (∃ xs, SqL K H1 a xs) ∧ LC (Itl K a) g tt te vs σ H1 Q) : tLc (iList K ta) g tt te vs σ H Q := h
/-- so far heard: the list l of equal pairs; the fraction m, the other value v with its text tx; the pen -/
structure Sx (Tt : List (Addr × Str)) (C l m p : Addr) (n : Nat) (o u : Int) (v : V) (tx : Str) (H : Hp) (xs : List V) : Prop where
  lst : H l = some (.lst xs)
  els : ∀ x ∈ xs, ∃ r, x = .ref r ∧ H r = some (.tup [.str "ratio", .str tx])
  rt : Rt C H m o u
  od : Od H v tx
  ne : v ≠ .ref l
  wo : Wo Tt H p n
  few : xs.length ≤ 1000
theorem Sx.exN {Tt : List (Addr × Str)} {l m p : Addr} {n : Nat} {o u : Int} {v : V} {tx : Str} {xs : List V} (S : Sx Tt C l m p n o u v tx H xs) (e : ExtN H H') (t : Tabs Tt H') : Sx Tt C l m p n o u v tx H' xs := by
  refine ⟨e _ _ S.lst (fun _ z => nomatch z), fun x hx => ?_, S.rt.exN e, S.od.exN e, S.ne, S.wo.exN e t, S.few⟩
  obtain ⟨r, h1, h2⟩ := S.els x hx
  exact ⟨r, h1, e _ _ h2 fun _ z => nomatch z⟩
theorem Od.up {v : V} {tx : Str} {l : Addr} {o : HO} (h : Od H v tx) (hn : v ≠ .ref l) : Od (upd H l o) v tx := by
  cases h with
  | non => exact .non
  | bl b => exact .bl b
  | str z h1 h3 => exact .str z h1 h3
  | tup h1 h2 h3 => exact .tup (by rw [upd_ne (fun z => hn (by rw [z]))]; exact h1) h2 h3
  | lst h1 h2 h3 => exact .lst (by rw [upd_ne (fun z => hn (by rw [z]))]; exact h1) h2 h3
  | dic h1 => exact .dic (by rw [upd_ne (fun z => hn (by rw [z]))]; exact h1)
theorem Od.keep {p : Addr} {v : V} {tx : Str} (h : Od H v tx) (hn : v ≠ .ref p) (k : ∀ b o, b ≠ p → H b = some o → H' b = some o) : Od H' v tx := by
  cases h with
  | non => exact .non
  | bl b => exact .bl b
  | str z h1 h3 => exact .str z h1 h3
  | tup h1 h2 h3 => exact .tup (k _ _ (fun z => hn (by rw [z])) h1) h2 h3
  | lst h1 h2 h3 => exact .lst (k _ _ (fun z => hn (by rw [z])) h1) h2 h3
  | dic h1 => exact .dic (k _ _ (fun z => hn (by rw [z])) h1)
theorem scO_lst {c : Addr} {ns : List Int} {xs : List V} : ScO c ns ≠ .lst xs := fun z => by unfold ScO at z; cases z
theorem penO_lst {a c : Addr} {n : Nat} {xs : List V} : PenO a c n ≠ .lst xs := fun z => by unfold PenO at z; cases z
theorem Wo.up {Tt : List (Addr × Str)} {p l : Addr} {n : Nat} {xs zs : List V} (w : Wo Tt H p n) (hl : H l = some (.lst xs)) : Wo Tt (upd H l (.lst zs)) p n := by
  obtain ⟨c, ns, h1, h2, h3⟩ := w.pen
  refine ⟨⟨c, ns, ?_, ?_, h3⟩, fun t ht => ?_⟩
  · rw [upd_ne (ne_of h1 hl penO_lst)]; exact h1
  · rw [upd_ne (ne_of h2 hl scO_lst)]; exact h2
  · obtain ⟨ps, g1, g2, g3⟩ := w.tabs t ht
    refine ⟨ps, by rw [upd_ne (ne_of g1 hl (by intro z; cases z))]; exact g1, g2, fun pos cv hc => ?_⟩
    obtain ⟨c, e1, e2⟩ := g3 pos cv hc
    exact ⟨c, e1, by rw [upd_ne (ne_of e2 hl (by intro z; unfold CodeO at z; cases z))]; exact e2⟩
theorem Sx.app {Tt : List (Addr × Str)} {l m p : Addr} {n : Nat} {o u : Int} {v : V} {tx : Str} {xs : List V} {r : Addr} (S : Sx Tt C l m p n o u v tx H xs) (h : H r = some (.tup [.str "ratio", .str tx])) (hf : xs.length < 1000) :
    Sx Tt C l m p n o u v tx (upd H l (.lst (xs ++ [.ref r]))) (xs ++ [.ref r]) := by
  have go : ∀ b zs, H b = some (.tup zs) → upd H l (.lst (xs ++ [.ref r])) b = some (.tup zs) := fun b zs e => by
    rw [upd_ne (ne_of e S.lst (by intro z; cases z))]; exact e
  refine ⟨upd_same, fun x hx => ?_, ?_, S.od.up S.ne, S.ne, S.wo.up S.lst, by simp; omega⟩
  · rcases List.mem_append.mp hx with hx | hx
    · obtain ⟨r', h1, h2⟩ := S.els x hx
      exact ⟨r', h1, go _ _ h2⟩
    · rw [List.mem_singleton.mp hx]
      exact ⟨r, rfl, go _ _ h⟩
  · obtain ⟨dx, e⟩ := S.rt
    exact ⟨dx, by rw [upd_ne (ne_of e S.lst (by intro z; cases z))]; exact e⟩
theorem Sx.dp {Tt : List (Addr × Str)} {l m p : Addr} {n : Nat} {o u : Int} {v : V} {tx : Str} : ∀ {xs : List V}, (∀ x ∈ xs, ∃ r, x = .ref r ∧ H r = some (.tup [.str "ratio", .str tx])) → DpAll K H xs (List.replicate xs.length (.tuple [.str "ratio", .str tx]))
  | [], _ => .nil
  | x :: r, h => by
    obtain ⟨q, rfl, hq⟩ := h x List.mem_cons_self
    exact .cons (.tup (.inl (.inl hq)) (.cons (.str _) (.cons (.str _) .nil))) (Sx.dp (Tt := Tt) (l := l) (m := m) (p := p) (n := n) (o := o) (u := u) (v := v) fun y hy => h y (List.mem_cons_of_mem _ hy))
end
end L3
end
section
namespace L3
open PySem PySem.Spec PySem.Calls PyProof.Rows PySem.W
section
variable {M : Model} {A : Around} {E : Value → Shared → Prop} {s : Shared} {x l C : Addr} {ox : Obj} {i : Int} {b : Bool} {t : Tok} {z : Str} {P : Fin → Shared → Prop}
theorem dc_int_gt (e : s.heap.get? x = some ox) (hd : ox.data = .plain) (h : P (.done (.ret .notImplemented)) s) : wpAny M A (Builtin.«int.__gt__» ⟨[.int i t, .ref x], []⟩) P E s := by
  obtain ⟨hp, g, d, tk, os⟩ := s
  wp_walk
  try (rw [hd]; wp_walk)
  exact h
end
section
variable {prog : Program} {w : World} {A : Around} {E : Value → Shared → Prop} {s : Shared} {K : Frag} {x C f : Addr} {ox : Obj} {od : Option Obj} {T id : String} {name : Str} {B : Builtin} {u : Value} {op : CmpOp}
theorem cdec (slot : Slot T name id) (hT : s.TypeIs u T) (entry : entryFor table id = some B) (args : argsOk id ⟨[u, .ref x], []⟩)
    (hB : ∀ {M : Model} {A : Around} {E : Value → Shared → Prop} {P : Fin → Shared → Prop}, P (.done (.ret .notImplemented)) s → wpAny M A (B ⟨[u, .ref x], []⟩) P E s) (Q : Option Value → Shared → Prop) (h : Q none s) :
    wpAny (model prog w) A (tryCompare u name (.ref x)) Q E s := by
  unfold tryCompare
  refine wpAny_bind (wpAny_callSpecialIfBound?_slot hT slot ?_)
  refine wpAny_call (codeAny_call_builtin slot.plain entry (slot.check _ _ _ _ _ _ _ _ hT args (hB ?_)))
  exact wpAny_pure h
/-- a value of a built-in type, as the machine has it -/
inductive LU (h : Heap) : Value → String → Prop
  | non : LU h .none "NoneType"
  | bl (b : Bool) : LU h (.bool b) "bool"
  | str (z : Str) (t : Tok) : LU h (.str z t) "str"
  | tup {l : Addr} {o : Obj} : h.get? l = some o → o.cls = .type "tuple" → LU h (.ref l) "tuple"
  | lst {l : Addr} {o : Obj} : h.get? l = some o → o.cls = .type "list" → LU h (.ref l) "list"
  | dic {l : Addr} {o : Obj} : h.get? l = some o → o.cls = .type "dict" → LU h (.ref l) "dict"
theorem LU.is (h : LU s.heap u T) : s.TypeIs u T := by
  cases h with
  | non => exact rfl
  | bl b => exact rfl
  | str z t => exact rfl
  | tup e c => exact ⟨_, e, c⟩
  | lst e c => exact ⟨_, e, c⟩
  | dic e c => exact ⟨_, e, c⟩
def DecN (op : CmpOp) : Prop := ∀ (prog : Program) (w : World) (A : Around) (E : Value → Shared → Prop) (s : Shared) (x : Addr) (ox : Obj) (i : Int) (t : Tok), s.heap.get? x = some ox → ox.data = .plain →
  ∀ Q : Option Value → Shared → Prop, Q none s → wpAny (model prog w) A (tryCompare (.int i t) (cmpInfo op).2.1 (.ref x)) Q E s
theorem decN_gt : DecN .Gt := fun prog w A E s x ox i t e hd Q h => cdec PySem.F.slot_int_gt (typeIs_int s i t) PySem.F.entry_int_gt (PySem.F.args_int_gt_2 _ _) (fun h => dc_int_gt e hd h) Q h
/-- an own one asked -/
theorem try_own {Q : Value → Shared → Prop} (X : K.In s.heap) (I : InstAt s.heap x ox C od) (hs : findIn K (.ref C) name = some (some (.ref f))) (hf : isFn K (.ref f) = true) (h : wpAny (model prog w) A (call (.ref f) [.ref x, u]) (PySem.W.CmpBack Q) E s) :
    wpAny (model prog w) A (tryCompare (.ref x) name u) (fun r s' => ∃ v, r = some v ∧ Q v s') E s := by
  unfold tryCompare
  refine wpAny_bind (ifBound_K X I hs hf (wpAny_mono h (fun v s' hv => ?_) fun _ _ e => e))
  cases v <;> first | exact hv.elim | exact wpAny_pure ⟨_, rfl, hv⟩
/-- one of a built-in type, then an own one -/
theorem cmp_refl {Q : Value → Shared → Prop} {r : Str} (hu : A.units < cLine) (X : K.In s.heap) (I : InstAt s.heap x ox C od) (hT : s.TypeIs u T) (hsub : subIn K (.ref C) (.type T) = some false) (hr : (cmpInfo op).2.2 = r)
    (dec : ∀ Q : Option Value → Shared → Prop, Q none s → wpAny (model prog w) A (tryCompare u (cmpInfo op).2.1 (.ref x)) Q E s)
    (one : wpAny (model prog w) A (tryCompare (.ref x) r u) (fun r s' => ∃ v, r = some v ∧ Q v s') E s) : wpAny (model prog w) A (richCompare op u (.ref x)) Q E s := by
  have hty : ∀ {Q : Value → Shared → Prop}, Q (.type T) s → wpAny (model prog w) A (typeOf u) Q E s := fun {Q} q => by
    cases u <;> first | (obtain ⟨o, h1, h2⟩ := hT; exact wpAny_typeOf_ref h1 (by rw [h2]; exact q)) | (rw [show typeOf _ = pure (Value.type T) from hT]; exact wpAny_pure q)
  unfold richCompare
  simp only [hT.oneThing_none]
  refine wpAny_holding (wpAny_bind (wpAny_cRoomFor hu ?_))
  refine wpAny_bind (hty (wpAny_bind (I.type.here ?_)))
  rw [if_pos (show (Value.type T != Value.ref C) = true from rfl)]
  refine wpAny_bind ((looks_subIn X hsub).here ?_)
  simp only [Bool.false_eq_true, if_false]
  refine wpAny_bind (dec _ ?_)
  simp only [Bool.not_false, if_true]
  rw [hr]
  refine wpAny_bind (wpAny_mono one (fun r s' z => ?_) fun _ _ e => e)
  obtain ⟨v, rfl, hq⟩ := z
  exact wpAny_pure hq
end
end L3
end
section
namespace L3
open PySem PySem.Spec PySem.Calls PyProof.Rows PySem.W
end L3
namespace L3
open PySem PySem.Spec PyProof.Rows L2 LamX
/-- what the written part says of the class, for its comparisons -/
structure CmpF (K : PySem.W.Frag) (C : Addr) : Prop where
  notF : (numTys.all fun T => PySem.W.notFirst K C (.type T)) = true
  notC : PySem.W.notFirst K C (.ref C) = true
  subs : (numTys.all fun T => decide (PySem.W.subIn K (.ref C) (.type T) = some false)) = true
  ob : PySem.W.mroIn K C (.type "object") = some true
  ne : PySem.W.findIn K (.ref C) "__ne__" = some (some (.builtin "object.__ne__"))
theorem CmpF.sub {K : PySem.W.Frag} {C : Addr} (F : CmpF K C) {T : String} (h : T ∈ numTys) : PySem.W.subIn K (.ref C) (.type T) = some false := of_decide_eq_true (List.all_eq_true.mp F.subs T h)
/-- a method of two parameters by its name -/
structure Me (P : Program) (w : World) (K : PySem.W.Frag) (mg : Str → Option Value) (base : Heap) (C : Addr) (m : Str) (k : Nat) (ps : List Str) (sp : Sp) : Prop where
  ex : ∃ (f : Addr) (fd : FuncData), PySem.W.findIn K (.ref C) m = some (some (.ref f)) ∧ PySem.W.isFn K (.ref f) = true ∧ FnOk P w K mg base (L2.CX P w) k f fd ps sp ∧ L2.Binds K fd ps []
section
variable {X : Cx} {C : Addr} {op : CmpOp} {k j : Nat} {sp : Sp} {E : XK} {m : Str}
theorem oth_looks {pins : List (Addr × Obj)} {σ : L2.St} {H : Hp} {s : Shared} {y : V} {u : Value} (F : CmpF X.K C) (I : Inv X pins σ H s) (r : RelV y u) (h : OthV C y H) : ∃ tb, PySem.W.Looks (model X.prog X.w) s.heap (typeOf u) tb ∧ PySem.W.notFirst X.K C tb = true := by
  have go : ∀ T, TyX X.K H y (.type T) → T ∈ numTys → ∃ tb, PySem.W.Looks (model X.prog X.w) s.heap (typeOf u) tb ∧ PySem.W.notFirst X.K C tb = true := fun T ty hm => by
    obtain ⟨P', kx, hP, _⟩ := kit_of I r ty
    exact ⟨_, kx.ty _ _ I.kIn hP, List.all_eq_true.mp F.notF T hm⟩
  rcases h with ⟨b, dx, fs, rfl, e⟩ | ⟨i, rfl⟩ | ⟨t, h⟩
  · obtain rfl : u = Value.ref b := r
    obtain ⟨od, J⟩ := ins_inst I.hok e
    exact ⟨_, J.type, F.notC⟩
  · exact go _ (.base (.int i)) (by simp)
  · obtain ⟨T, h1, h2⟩ := h.tyAll (K := X.K)
    exact go T h1 (List.mem_cons_of_mem _ h2)
/-- own first -/
theorem cmpOwn (hop : ∀ a b, compareOp op a b = richCompare op a b) (F : CmpF X.K C) (hm : (cmpInfo op).2.1 = m) (B : Me X.prog X.w X.K X.mg X.base C m k ["self", "other"] sp) (hr : Room j X.A) (hx : Passes (L2.CX X.prog X.w) X E) (hk : k ≤ j := by decide) :
    OpR X (compareOp op) (rOwn C sp E) := by
  obtain ⟨f, fd, h1, h2, G, b⟩ := B.ex
  intro pins s σ H x y v u Q I rx ry h
  obtain ⟨a, dx, fs, rfl, ea, ho, q⟩ := h
  obtain rfl : v = Value.ref a := rx
  obtain ⟨od, J⟩ := ins_inst I.hok ea
  obtain ⟨tb, L, nf⟩ := oth_looks F I ry ho
  obtain ⟨mm, Fr⟩ := I.fr
  rw [hop]
  subst hm
  exact PySem.W.cmp_K hr.units0 Fr I.mod.kin J L nf h1 h2 (wpAny_mono (run_fn G (hr.mono hk) b .nil hx I (vs := [.ref a, y]) (.cons (show RelV (.ref a) (.ref a) from rfl) (.cons ry .nil)) (by rw [List.append_nil]; exact q)) (fun w' s' ⟨v', H', I', r', z⟩ => rel_back r' ⟨v', H', I', r', z⟩) fun _ _ z => z)
theorem ask_own {pins : List (Addr × Obj)} {s : Shared} {σ : L2.St} {H : Hp} {a dx : Addr} {fs : List (Str × V)} {x : V} {v : Value} {Q : VK} (B : Me X.prog X.w X.K X.mg X.base C m k ["self", "other"] sp) (hr : Room j X.A) (hx : Passes (L2.CX X.prog X.w) X E) (hk : k ≤ j)
    (I : Inv X pins σ H s) (rx : RelV x v) (ea : H a = some (.ins C dx fs)) (q : sp [.ref a, x] H Q E) : wpAny (model X.prog X.w) X.A (tryCompare (.ref a) m v) (fun r s' => ∃ z, r = some z ∧ EP X pins σ Q z s') X.xe s := by
  obtain ⟨f, fd, h1, h2, G, b⟩ := B.ex
  obtain ⟨od, J⟩ := ins_inst I.hok ea
  exact try_own I.kIn J h1 h2 (wpAny_mono (run_fn G (hr.mono hk) b .nil hx I (vs := [.ref a, x]) (.cons (show RelV (.ref a) (.ref a) from rfl) (.cons rx .nil)) (by rw [List.append_nil]; exact q)) (fun w' s' ⟨v', H', I', r', z⟩ => rel_back r' ⟨v', H', I', r', z⟩) fun _ _ z => z)
/-- an int, then own -/
theorem cmpInt (hop : ∀ a b, compareOp op a b = richCompare op a b) (d : DecN op) (F : CmpF X.K C) (hm : (cmpInfo op).2.2 = m) (B : Me X.prog X.w X.K X.mg X.base C m k ["self", "other"] sp) (hr : Room j X.A) (hx : Passes (L2.CX X.prog X.w) X E) (hk : k ≤ j := by decide) :
    OpR X (compareOp op) (rInt C sp E) := by
  intro pins s σ H x y v u Q I rx ry h
  obtain ⟨a, dx, fs, rfl, ea, ⟨i, rfl⟩, q⟩ := h
  obtain rfl : u = Value.ref a := ry
  obtain ⟨t, rfl⟩ := (show ∃ t, v = Value.int i t from rx)
  obtain ⟨od, J⟩ := ins_inst I.hok ea
  rw [hop]
  exact cmp_refl hr.units0 I.kIn J (typeIs_int s i t) (F.sub (by simp)) hm (fun Q h => d _ _ _ _ s a _ i t J.at_ rfl Q h) (ask_own B hr hx hk I (show RelV (.int i) (.int i t) from ⟨t, rfl⟩) ea q)
/-- numbers compared, one of them a fraction at least -/
theorem cmpBin {spR : Sp} {m' : Str} (hop : ∀ a b, compareOp op a b = richCompare op a b) (d : DecN op) (F : CmpF X.K C) (hm : (cmpInfo op).2.1 = m) (hm' : (cmpInfo op).2.2 = m') (B : Me X.prog X.w X.K X.mg X.base C m k ["self", "other"] sp) (B' : Me X.prog X.w X.K X.mg X.base C m' k ["self", "other"] spR) (hr : Room j X.A) (hx : Passes (L2.CX X.prog X.w) X E) (hk : k ≤ j := by decide) :
    OpR X (compareOp op) (rBin C sp spR E) := OpR.or (cmpOwn hop F hm B hr hx hk) (cmpInt hop d F hm' B' hr hx hk)
end
section
variable {C CB : Addr} {H : Hp} {Q : VK} {x y : V} {o u o' u' : Int} {E : XK}
def spCmp (g : Int → Int → Int → Int → Bool) (C CB : Addr) : Sp := fun vs H Q E => ∃ p y o u, vs = [.ref p, y] ∧ Rt C H p o u ∧ Bd o u ∧
  ((∃ o' u', Nm C H y o' u' ∧ Bd o' u' ∧ ∀ H', Ex H H' → Q (.bl (g o u o' u')) H') ∨ (∃ t, Od H y t ∧ Rz CB "value" y H E))
def gLt (o u o' u' : Int) : Bool := decide (o * u' < o' * u)
def gGt (o u o' u' : Int) : Bool := decide (o * u' > o' * u)
theorem s_cmp {g g' : Int → Int → Int → Int → Bool} (hc : ∀ o u o' u', g' o' u' o u = g o u o' u') (n1 : Nm C H x o u) (n2 : Nm C H y o' u') (one : (∃ q, x = .ref q) ∨ ∃ q, y = .ref q) (b1 : Bd o u) (b2 : Bd o' u')
    (h : ∀ H', Ex H H' → Q (.bl (g o u o' u')) H') : rBin C (spCmp g C CB) (spCmp g' C CB) E x y H Q := by
  rcases n1 with ⟨q, rfl, r1⟩ | ⟨rfl, rfl⟩
  · refine .inl ?_
    obtain ⟨dx, e⟩ := id r1
    refine ⟨q, dx, _, rfl, e, ?_, q, y, o, u, rfl, r1, b1, .inl ⟨o', u', n2, b2, h⟩⟩
    rcases n2 with ⟨q', rfl, dx', e'⟩ | ⟨rfl, rfl⟩
    · exact .inl ⟨q', dx', _, rfl, e'⟩
    · exact .inr (.inl ⟨_, rfl⟩)
  · rcases n2 with ⟨q', rfl, r2⟩ | ⟨rfl, rfl⟩
    · refine .inr ?_
      obtain ⟨dx', e'⟩ := id r2
      exact ⟨q', dx', _, rfl, e', ⟨_, rfl⟩, q', _, o', u', rfl, r2, b2, .inl ⟨o, 1, .inr ⟨rfl, rfl⟩, b1, fun H' he => by rw [hc]; exact h H' he⟩⟩
    · rcases one with ⟨q, e⟩ | ⟨q, e⟩ <;> cases e
end
end L3
end
section
namespace L3
open PySem PySem.Spec PyProof.Rows L2 LamX
section
variable {C CB : Addr} {H H' : Hp} {Q : VK} {x y : V} {o u o' u' : Int} {E : XK}
theorem Rz.ex {g : Str} {v : V} (h : Rz C g v H E) (e : Ex H H') : Rz C g v H' E := fun d H2 hd e2 hx => h d H2 (e.free hd) (e.trans e2) hx
end
end L3
end
section
namespace L3
open PySem PySem.Spec PyProof.Rows L2 LamX
def LamO (f : Addr) (env : Env) (params : Arguments) (body : Expr) (scope : Scope) (c' : Addr) : HO := .ext fun h => ∃ pm ctv, h.get? f = some (PySem.W.kla_obj "<lambda>" (env.qual ++ "<lambda>") params body scope (cloFrom env.cells scope.names []) pm c' ctv)
end L3
end
section
namespace L3
open PySem PySem.Spec PySem.Calls PyProof.Rows PySem.W
open PySem.MeetsSeq2
open PySem.AutoSeq1 (wpAny_loadPart')
end L3
namespace L3
open PySem PySem.Spec PyProof.Rows L2 LamX L2H
end L3
end
section
namespace L3
open PySem PySem.Spec PyProof.Rows L2 LamX ClX
structure StM (P : Program) (w : World) (K : PySem.W.Frag) (mg : Str → Option Value) (base : Heap) (CX : CXT) (k : Nat) (C : Addr) (m : Str) (ps : List Str) (sp : Sp) : Prop where
  ex : ∃ (mc : Value) (p g : Addr) (gd : FuncData) (rest : List Value), CRead K C mc ∧ PySem.W.findCls K (.ref C) mc m = some (.get (.builtin "staticmethod.__get__") (.ref p) .none (.ref C)) ∧ PySem.W.recIn K p "staticmethod" = some (.ref g :: rest) ∧ PySem.W.handedIn (.ref g) = true ∧
    PySem.W.keepIn K (.ref g) = true ∧ FnOk P w K mg base CX k g gd ps sp ∧ L2.Binds K gd ps [] ∧ ∀ (s : Shared) (ws : List Value), K.In s.heap → ws.length = ps.length → BindsTo s gd ⟨[], ps.zip ws⟩ (ps.zip ws)
def tSt (C : Addr) (sp : Sp) (E : XK) (ta : TE) (t : TA) : TE := fun σ H Q => ta σ H fun x H1 => x = .ref C ∧ t σ H1 fun vs H2 => sp vs H2 Q E
section
variable {X : Cx} {CX : CXT} {k j : Nat} {C : Addr} {sp : Sp} {E : XK} {o e : Expr} {es : List Expr} {m : Str} {ps : List Str} {pos apos : Pos} {ta : TE} {t : TA} {pl : Sem Bool}
theorem getst {pins : List (Addr × Obj)} {σ : L2.St} {H : Hp} {s : Shared} {A : Around} {E' : Value → Shared → Prop} {Q : Value × List Value → Shared → Prop} {mc : Value} {p g : Addr} {rest : List Value} (I : Inv X pins σ H s) (r : CRead X.K C mc) (h1 : PySem.W.findCls X.K (.ref C) mc m = some (.get (.builtin "staticmethod.__get__") (.ref p) .none (.ref C)))
    (h2 : PySem.W.recIn X.K p "staticmethod" = some (.ref g :: rest)) (h3 : PySem.W.handedIn (.ref g) = true) (h : ∀ s', Inv X pins σ H s' → Q (.ref g, []) s') : wpAny (model X.prog X.w) A (getMethod (.ref C) m pl) Q E' s :=
  PySem.W.method_cls I.kIn r.ga (PySem.W.cls_bind I.kIn r.rd h1 (wpAny_call (PySem.W.sm_get (s := { s with toks := s.toks + 1 }) I.kIn h2 (PySem.W.handed_on h3 (h _ (I.tok _))))))
theorem pe_st (c : StM X.prog X.w X.K X.mg X.base CX k C m ps sp) (hr : Room j X.A) (hx : Passes CX X E) (he : PE X o ta) (ha : PA X (e :: es) t) (hk : k ≤ j := by decide)
    (hst : starEach (e :: es) X.env = (false, eval e X.env) :: starEach es X.env := by rfl) (hpl : (backTo pos (starEach es X.env)).any (·.1) = false := by rfl)
    (ht : eval (.Call (.Attribute o m apos) (e :: es) [] pos) X.env = (do
      let ov ← eval o X.env
      standAt apos.atName
      let (f, first) ← holding [ov] (getMethod ov m pl)
      callWith pos f first (backTo pos (starEach (e :: es) X.env)) (backToKw pos (keywordEach [] X.env))) := by rfl) :
    PE X (.Call (.Attribute o m apos) (e :: es) [] pos) (tSt C sp E ta t) := by
  obtain ⟨mc, p, g, gd, rest, r, h1, h2, h3, kp, F, b, _⟩ := c.ex
  refine ⟨fun pins s σ H Q I h => ?_⟩
  refine PySem.W.methodCall_KW (pl := pl) (thn (he.run pins s σ H _ I h) fun u s1 hh => ?_) ht
  obtain ⟨x, H1, I1, rx, ex, q⟩ := hh
  subst ex
  obtain rfl : u = Value.ref C := rx
  refine getst I1 r h1 h2 h3 fun s2 I2 => ?_
  refine PySem.W.callWith_K (h₀ := X.base) (first := []) I2.ok.mod.kin kp (thn (ha.run pos pins s2 σ H1 _ I2 q) fun us s3 hh => ?_) hst hpl
  obtain ⟨vs, H2, I3, rv, q2⟩ := hh
  exact ⟨I3.kIn, run_fn F (hr.mono hk) b .nil hx I3 rv (by rw [List.append_nil]; exact q2)⟩
end
end L3
end
section
namespace L3
open PySem PySem.Spec PyProof.Rows L2 LamX L2H
end L3
end
section
namespace L3
open PySem PySem.Spec PyProof.Rows L2 LamX
section
variable {C CB : Addr} {H H' : Hp} {Q : VK} {E : XK}
/-- no integer: another value or a fraction -/
def OdR (C : Addr) (H : Hp) (x : V) : Prop := (∃ t, Od H x t) ∨ ∃ q o u, x = .ref q ∧ Rt C H q o u
theorem OdR.exN {x : V} (h : OdR C H x) (e : ExtN H H') : OdR C H' x := by
  rcases h with ⟨t, h⟩ | ⟨q, o, u, rfl, h⟩
  · exact .inl ⟨t, h.exN e⟩
  · exact .inr ⟨q, o, u, rfl, h.exN e⟩
end
end L3
end
section
namespace L3
open PySem PySem.Spec PyProof.Rows L2 LamX
namespace KX
variable {X : Cx} {K : PySem.W.Frag} (hK : X.K = K)
include hK
theorem isiTT : CallR X (.builtin "isinstance") (rIsiT K) := by subst hK; exact call_isiT
end KX
section
variable {K : PySem.W.Frag} {C CB : Addr} {H H' : Hp} {Q : VK} {E : XK}
theorem kit_lt {a : String} {b1 b2 : Bool} (h1 : kitB a "list" = some b1) (h2 : kitB a "tuple" = some b2) : PySem.W.kitAny K (.type a) [.type "list", .type "tuple"] = some (b1 || b2) := by
  have e1 := kit_ty (K := K) h1
  have e2 := kit_ty (K := K) h2
  unfold PySem.W.kitAny
  unfold PySem.W.kitAny
  unfold PySem.W.kitAny
  rw [e1, e2]
  cases b1 <;> cases b2 <;> rfl
theorem s_isiLT {x : V} {q : Addr} {t : Value} {b : Bool} (hq : H q = some (.tup [.ty "list", .ty "tuple"])) (ty : TyX K H x t) (e : PySem.W.kitAny K t [.type "list", .type "tuple"] = some b) (h : Q (.bl b) H) : rIsiT K [x, .ref q] H Q :=
  ⟨x, q, _, t, _, b, rfl, hq, .cons (.ty _) (.cons (.ty _) .nil), ty, e, h⟩
theorem s_lenT {R : Nat → Prop} {p : Addr} {xs : List V} (hp : H p = some (.tup xs)) (h : R xs.length) : ∃ x n, [V.ref p] = [x] ∧ LenV K x H n ∧ R n := ⟨_, _, rfl, .inr ⟨xs, .inl (.inl hp), rfl⟩, h⟩
inductive Nms (C : Addr) (H : Hp) : List V → List (Int × Int) → Prop
  | nil : Nms C H [] []
  | cons {v : V} {vs : List V} {q : Int × Int} {qs : List (Int × Int)} : Nm C H v q.1 q.2 → Bd q.1 q.2 → Nms C H vs qs → Nms C H (v :: vs) (q :: qs)
theorem Nm.ex' {v : V} {o u : Int} (h : Nm C H v o u) (e : Ex H H') : Nm C H' v o u := by
  rcases h with ⟨q, rfl, r⟩ | h
  · exact .inl ⟨q, rfl, r.ex e⟩
  · exact .inr h
theorem Nms.ex {vs : List V} {qs : List (Int × Int)} (h : Nms C H vs qs) (e : Ex H H') : Nms C H' vs qs := by
  induction h with
  | nil => exact .nil
  | cons a b _ ih => exact .cons (a.ex' e) b ih
theorem Nms.length {vs : List V} {qs : List (Int × Int)} (h : Nms C H vs qs) : vs.length = qs.length := by
  induction h with
  | nil => rfl
  | cons _ _ _ b => simp [b]
theorem Nms.get {vs : List V} {qs : List (Int × Int)} (h : Nms C H vs qs) : ∀ {i : Nat} {x : V}, vs[i]? = some x → ∃ q, qs[i]? = some q ∧ Nm C H x q.1 q.2 ∧ Bd q.1 q.2 := by
  induction h with
  | nil => intro i x e; simp at e
  | cons a b _ ih =>
    intro i x e
    cases i with
    | zero => cases e; exact ⟨_, rfl, a, b⟩
    | succ i => exact ih (by simpa using e)
/-- no list, no tuple; or an empty one -/
inductive NoLT (H : Hp) : V → Prop
  | non : NoLT H .non
  | bl (b : Bool) : NoLT H (.bl b)
  | int (i : Int) : NoLT H (.int i)
  | str (z : Str) : NoLT H (.str z)
  | dic {p : Addr} {kvs : List (Key × V)} : H p = some (.dK kvs) → NoLT H (.ref p)
theorem NoLT.ty {v : V} (h : NoLT H v) : ∃ t, TyX K H v t ∧ PySem.W.kitAny K t [.type "list", .type "tuple"] = some false := by
  cases h with
  | non => exact ⟨_, .base .non, kit_lt (b1 := false) (b2 := false) (by decide +kernel) (by decide +kernel)⟩
  | bl b => exact ⟨_, .base (.bl b), kit_lt (b1 := false) (b2 := false) (by decide +kernel) (by decide +kernel)⟩
  | int b => exact ⟨_, .base (.int b), kit_lt (b1 := false) (b2 := false) (by decide +kernel) (by decide +kernel)⟩
  | str b => exact ⟨_, .base (.str b), kit_lt (b1 := false) (b2 := false) (by decide +kernel) (by decide +kernel)⟩
  | dic h => exact ⟨_, .base (.dK h), kit_lt (b1 := false) (b2 := false) (by decide +kernel) (by decide +kernel)⟩
theorem NoLT.ex {v : V} (h : NoLT H v) (e : Ex H H') : NoLT H' v := by
  cases h with
  | non => exact .non
  | bl b => exact .bl b
  | int b => exact .int b
  | str b => exact .str b
  | dic h => exact .dic (e _ _ h)
variable {g : TG} {tb : TS} {D : Ends} {σ : L2.St} {tl : TE}
def ForL (K : PySem.W.Frag) (a : Addr) (g : TG) (tb : TS) (D : Ends) (σ : L2.St) (H : Hp) : Prop := ∃ W : Nat → Nat → L2.St → Hp → Prop, (∃ m, W 0 m σ H) ∧ ∀ (i m : Nat) (σ : L2.St) (H : Hp), W i m σ H → (Itl K a).stop i H ∧ D.nx σ H ∨ (Itl K a).go i H ∧
  ∃ N, (∀ (σ' : L2.St) (H' : Hp), N σ' H' → ∃ m', m' < m ∧ W (i + 1) m' σ' H') ∧ ∀ (x : V) (H' : Hp), (Itl K a).yld i H x H' → g x σ H' fun σ2 H2 => tb { nx := N, rt := D.rt, bk := D.nx, ct := N } σ2 H2
def ForT (K : PySem.W.Frag) (a : Addr) (g : TG) (tb : TS) (D : Ends) (σ : L2.St) (H : Hp) : Prop := ∃ W : Nat → Nat → L2.St → Hp → Prop, (∃ m, W 0 m σ H) ∧ ∀ (i m : Nat) (σ : L2.St) (H : Hp), W i m σ H → (Itt K a).stop i H ∧ D.nx σ H ∨ (Itt K a).go i H ∧
  ∃ N, (∀ (σ' : L2.St) (H' : Hp), N σ' H' → ∃ m', m' < m ∧ W (i + 1) m' σ' H') ∧ ∀ (x : V) (H' : Hp), (Itt K a).yld i H x H' → g x σ H' fun σ2 H2 => tb { nx := N, rt := D.rt, bk := D.nx, ct := N } σ2 H2
theorem s_forL (h : tl σ H fun x H1 => ∃ a, x = .ref a ∧ (∃ xs, SqL K H1 a xs) ∧ ForL K a g tb D σ H1) : tFor (iList K tl) g tb D σ H := h
theorem s_forT (h : tl σ H fun x H1 => ∃ a, x = .ref a ∧ (∃ xs, SqT K H1 a xs) ∧ ForT K a g tb D σ H1) : tFor (iTup K tl) g tb D σ H := h
theorem s_fL {a : Addr} {xs : List V} (ha : H a = some (.lst xs)) (Pv : Nat → L2.St → Hp → Prop) (h0 : Pv 0 σ H) (hs : ∀ i σ H, Pv i σ H → H a = some (.lst xs))
    (hb : ∀ i x σ H, xs[i]? = some x → Pv i σ H → g x σ H fun σ2 H2 => tb { nx := Pv (i + 1), rt := D.rt, bk := D.nx, ct := Pv (i + 1) } σ2 H2) (he : ∀ σ H, Pv xs.length σ H → D.nx σ H) :
    ∃ a', V.ref a = .ref a' ∧ (∃ xs, SqL K H a' xs) ∧ ForL K a' g tb D σ H := ⟨a, rfl, ⟨xs, .inl (.inl ha)⟩, for_list Pv h0 (fun i σ H _ h => .inl (.inl (hs i σ H h))) hb he⟩
theorem s_fT {a : Addr} {xs : List V} (ha : H a = some (.tup xs)) (Pv : Nat → L2.St → Hp → Prop) (h0 : Pv 0 σ H) (hs : ∀ i σ H, Pv i σ H → H a = some (.tup xs))
    (hb : ∀ i x σ H, xs[i]? = some x → Pv i σ H → g x σ H fun σ2 H2 => tb { nx := Pv (i + 1), rt := D.rt, bk := D.nx, ct := Pv (i + 1) } σ2 H2) (he : ∀ σ H, Pv xs.length σ H → D.nx σ H) :
    ∃ a', V.ref a = .ref a' ∧ (∃ xs, SqT K H a' xs) ∧ ForT K a' g tb D σ H := ⟨a, rfl, ⟨xs, .inl (.inl ha)⟩, for_tup Pv h0 (fun i σ H _ h => .inl (.inl (hs i σ H h))) hb he⟩
theorem s_gNm {i : Nat} {v : V} {R : L2.St → Hp → Prop} (h : R (σ.set i (some v)) H) : gName i v σ H R := h
end
end L3
end
section
namespace L3
open PySem PySem.Spec PyProof.Rows L2 LamX
end L3
end
section
namespace L3
open PySem PySem.Spec PyProof.Rows L2 LamX
section
variable {K : PySem.W.Frag} {σ : L2.St} {H H' : Hp} {Q : VK} {C CB : Addr}
inductive Vl (H : Hp) : V → Str → Prop
  | od {v : V} {t : Str} : Od H v t → Vl H v t
  | int (i : Int) : i.natAbs.log2 < 1920 → (PyData.int i).shown.length ≤ 1001 → Vl H (.int i) (PyData.int i).shown
  | d12 {p : Addr} : H p = some (.dK [(.inl 1, .int 2)]) → Vl H (.ref p) (PyData.dict [(.int 1, .int 2)]).shown
theorem Vl.exN {v : V} {t : Str} (h : Vl H v t) (e : ExtN H H') : Vl H' v t := by
  cases h with
  | od h => exact .od (h.exN e)
  | int i h2 h3 => exact .int i h2 h3
  | d12 h => exact .d12 (e _ _ h fun _ z => nomatch z)
theorem Vl.ex {v : V} {t : Str} (h : Vl H v t) (e : Ex H H') : Vl H' v t := h.exN e.n
theorem Vl.up {v : V} {t : Str} {l : Addr} {o : HO} (h : Vl H v t) (hn : v ≠ .ref l) : Vl (upd H l o) v t := by
  cases h with
  | od h => exact .od (h.up hn)
  | int i h2 h3 => exact .int i h2 h3
  | d12 h => exact .d12 (by rw [upd_ne (fun z => hn (by rw [z]))]; exact h)
theorem Vl.keep {p : Addr} {v : V} {t : Str} (h : Vl H v t) (hn : v ≠ .ref p) (k : ∀ b o, b ≠ p → H b = some o → H' b = some o) : Vl H' v t := by
  cases h with
  | od h => exact .od (h.keep hn k)
  | int i h2 h3 => exact .int i h2 h3
  | d12 h => exact .d12 (k _ _ (fun z => hn (by rw [z])) h)
/-- what lies nowhere yet is none of these -/
theorem Vl.new {v : V} {t : Str} {l : Addr} (h : Vl H v t) (hl : H l = none) : v ≠ .ref l := fun z => by
  subst z
  cases h with
  | od h =>
    cases h with
    | tup q _ _ => rw [hl] at q; cases q
    | lst q _ _ => rw [hl] at q; cases q
    | dic q => rw [hl] at q; cases q
  | d12 q => rw [hl] at q; cases q
/-- the heard pairs -/
inductive Hrd (H : Hp) : List V → List Str → Prop
  | nil : Hrd H [] []
  | cons {r : Addr} {vs : List V} {t : Str} {ts : List Str} : H r = some (.tup [.str "ratio", .str t]) → Hrd H vs ts → Hrd H (.ref r :: vs) (t :: ts)
theorem Hrd.exN {vs : List V} {ts : List Str} (h : Hrd H vs ts) (e : ExtN H H') : Hrd H' vs ts := by
  induction h with
  | nil => exact .nil
  | cons a _ b => exact .cons (e _ _ a fun _ z => nomatch z) b
theorem Hrd.up {vs : List V} {ts : List Str} {l : Addr} {xs zs : List V} (h : Hrd H vs ts) (hl : H l = some (.lst xs)) : Hrd (upd H l (.lst zs)) vs ts := by
  induction h with
  | nil => exact .nil
  | cons a _ b => exact .cons (by rw [upd_ne (ne_of a hl (by intro z; cases z))]; exact a) b
theorem Hrd.snoc {vs : List V} {ts : List Str} {r : Addr} {t : Str} (h : Hrd H vs ts) (a : H r = some (.tup [.str "ratio", .str t])) : Hrd H (vs ++ [.ref r]) (ts ++ [t]) := by
  induction h with
  | nil => exact .cons a .nil
  | cons b _ c => exact .cons b c
theorem Hrd.length {vs : List V} {ts : List Str} (h : Hrd H vs ts) : vs.length = ts.length := by
  induction h with
  | nil => rfl
  | cons _ _ b => simp [b]
def hrD (ts : List Str) : List PyData := ts.map fun t => .tuple [.str "ratio", .str t]
theorem Hrd.dp {vs : List V} {ts : List Str} (h : Hrd H vs ts) : DpAll K H vs (hrD ts) := by
  induction h with
  | nil => exact .nil
  | cons a _ b => exact .cons (.tup (.inl (.inl a)) (.cons (.str _) (.cons (.str _) .nil))) b
/-- so far heard: the list l; what is known of some values; the pen -/
structure Sy (Tt : List (Addr × Str)) (l p : Addr) (n : Nat) (Pv : Hp → Prop) (H : Hp) (xs : List V) (ts : List Str) : Prop where
  lst : H l = some (.lst xs)
  els : Hrd H xs ts
  pv : Pv H
  wo : Wo Tt H p n
  few : xs.length ≤ 1000
structure Clo (l : Addr) (Pv : Hp → Prop) : Prop where
  ext : ∀ H H', Pv H → ExtN H H' → Pv H'
  upd : ∀ H zs, Pv H → Pv (upd H l (.lst zs))
theorem Sy.exN {Tt : List (Addr × Str)} {l p : Addr} {n : Nat} {Pv : Hp → Prop} {xs : List V} {ts : List Str} (S : Sy Tt l p n Pv H xs ts) (c : Clo l Pv) (e : ExtN H H') (t : Tabs Tt H') : Sy Tt l p n Pv H' xs ts :=
  ⟨e _ _ S.lst (fun _ z => nomatch z), S.els.exN e, c.ext _ _ S.pv e, S.wo.exN e t, S.few⟩
theorem Sy.app {Tt : List (Addr × Str)} {l p : Addr} {n : Nat} {Pv : Hp → Prop} {xs : List V} {ts : List Str} {r : Addr} {tx : Str} (S : Sy Tt l p n Pv H xs ts) (c : Clo l Pv) (h : H r = some (.tup [.str "ratio", .str tx])) (hf : xs.length < 1000) :
    Sy Tt l p n Pv (upd H l (.lst (xs ++ [.ref r]))) (xs ++ [.ref r]) (ts ++ [tx]) :=
  ⟨upd_same, (S.els.up S.lst).snoc (by rw [upd_ne (ne_of h S.lst (by intro z; cases z))]; exact h), c.upd _ _ S.pv, S.wo.up S.lst, by simp; omega⟩
/-- no list or tuple of numbers -/
def Lt (H : Hp) (v : V) : Prop := NoLT H v ∨ ∃ a, v = .ref a ∧ (H a = some (.lst []) ∨ H a = some (.tup []))
theorem Lt.map {v : V} {G : Hp} (h : Lt H v) (f : ∀ a o, v = .ref a → H a = some o → (∀ ps, o ≠ .tbl ps) → G a = some o) : Lt G v := by
  rcases h with h | ⟨a, rfl, h⟩
  · cases h with
    | non => exact .inl .non
    | bl b => exact .inl (.bl b)
    | int i => exact .inl (.int i)
    | str z => exact .inl (.str z)
    | dic h => exact .inl (.dic (f _ _ rfl h fun _ z => nomatch z))
  · exact .inr ⟨a, rfl, h.imp (fun h => f _ _ rfl h fun _ z => nomatch z) (fun h => f _ _ rfl h fun _ z => nomatch z)⟩
theorem Lt.exN {v : V} (h : Lt H v) (e : ExtN H H') : Lt H' v := h.map fun a o _ h n => e a o h n
theorem Lt.up {v : V} {l : Addr} {o : HO} (h : Lt H v) (hn : v ≠ .ref l) : Lt (upd H l o) v := h.map fun a o e h _ => by rw [upd_ne (fun z => hn (by rw [e, z]))]; exact h
theorem Lt.keep {p : Addr} {v : V} (h : Lt H v) (hn : v ≠ .ref p) (k : ∀ b o, b ≠ p → H b = some o → H' b = some o) : Lt H' v := h.map fun a o e h _ => k a o (fun z => hn (by rw [e, z])) h
end
end L3
end
section
namespace L3
open PySem PySem.Spec PyProof.Rows L2 LamX ClX
def rStrB (K : PySem.W.Frag) : List V → Hp → VK → Prop := fun xs H Q => ∃ i : Int, xs = [.int i] ∧ PySem.W.nsIn K cStatics "sys.int_max_str_digits" = some none ∧ i.natAbs < 10 ^ 4300 ∧ Q (.str (strOf i)) H
theorem callStrB {X : Cx} (hc : X.calm = true) : CallR X (.type "str") (rStrB X.K) := by
  intro pins s σ H xs us Q I r h
  obtain ⟨i, rfl, hk, hi, q⟩ := h
  obtain ⟨u, rfl, t, rfl⟩ := vals1 r
  exact str_of_int_or (I.ok.hd hc) (digits_free I.kIn I.nolimit hk) (fun _ => ⟨.str _, H, I.tok _, ⟨_, rfl⟩, q⟩) (fun h => absurd hi (Nat.not_lt_of_le h))
structure Er2 (P : Program) (w : World) (K : PySem.W.Frag) (mg : Str → Option Value) (base : Heap) (x : Str) (C : Addr) (g g2 : Str) : Prop where
  oex : OexC K C
  m : mg x = some (.ref C)
  ex : ∃ (f : Addr) (fd : FuncData) (y y2 : Str), PySem.W.findIn K (.ref C) "__init__" = some (some (.ref f)) ∧ PySem.W.typeIn K (.ref f) = some (.type "function") ∧ FnOk P w K mg base CX0 1 f fd ["self", y, y2] (spErr2 C g g2) ∧ L2.Binds K fd ["self", y, y2] []
def Rz2 (C : Addr) (g g2 : Str) (v v2 : V) (H : Hp) (E : XK) : Prop := ∀ d H', H d = none → Ex H H' → H' d = some (.xd [(g2, v2), (g, v)]) → E (.ref C) (some d) H'
theorem Rz2.ex {C : Addr} {g g2 : Str} {v v2 : V} {H H' : Hp} {E : XK} (h : Rz2 C g g2 v v2 H E) (e : Ex H H') : Rz2 C g g2 v v2 H' E := fun d H2 hd e2 hx => h d H2 (e.free hd) (e.trans e2) hx
def rMk2 (C : Addr) (g g2 : Str) (vs : List V) (H1 : Hp) (E : XK) : Prop := vs.length ≤ 1000 ∧ ∀ a, H1 a = none → spErr2 C g g2 (.ref a :: (vs ++ [])) (upd H1 a (exo a C none))
  (fun v H2 => v = .non ∧ ∃ (d : Addr) (fs : List (Str × V)), H2 a = some (exo a C (some d)) ∧ H2 d = some (exd d fs) ∧ H1 d = none ∧ E (.ref C) (some d) (upd (del H2 a) d (.xd fs))) (fun _ _ _ => False)
def tRaise2 (C : Addr) (g g2 : Str) (te te2 : TE) (W : WX) : TS := fun _ σ H => te σ H fun v H1 => te2 σ H1 fun v2 H2 => rMk2 C g g2 [v, v2] H2 (fun cls d H' => W cls d σ H')
theorem ps_raise2 {X : Cx} {W : WX} {x g g2 : Str} {C : Addr} {j : Nat} {e e2 : Expr} {te te2 : TE} {p p1 pos : Pos} (c : Er2 X.prog X.w X.K X.mg X.base x C g g2) (hr : Room j X.A) (hc : X.calm = true) (tk : Takes X W) (ha : PA X [e, e2] (tCons te (tCons te2 tNil))) (hk : 2 ≤ j := by decide) (gl : Gl X x := by rfl)
    (hdb : (x == ("__debug__" : Str)) = false := by decide) (hst : starEach [e, e2] X.env = (false, eval e X.env) :: starEach [e2] X.env := by rfl) (hpl : (backTo p1 (starEach [e2] X.env)).any (·.1) = false := by rfl) :
    PS X (.Raise (some (.Call (.Name x p) [e, e2] [] p1)) none pos) (tRaise2 C g g2 te te2 W) := by
  obtain ⟨f, fd, y, y2, i1, i2, F, b⟩ := c.ex
  exact ps_raise (pos := pos) hc tk (pmk_oex (p := p) (pos := p1) c.oex i1 i2 F (hr.mono hk) b .nil pass0 gl c.m ha hdb hst hpl)
theorem s_raise2 {C : Addr} {g g2 : Str} {te te2 : TE} {W : WX} {D : Ends} {σ : L2.St} {H : Hp} (h : te σ H fun v H1 => te2 σ H1 fun v2 H2 => rMk2 C g g2 [v, v2] H2 (fun cls d H' => W cls d σ H')) : tRaise2 C g g2 te te2 W D σ H := h
theorem s_rz2 {C : Addr} {g g2 : Str} {v v2 : V} {H : Hp} {E : XK} (h : Rz2 C g g2 v v2 H E) : rMk2 C g g2 [v, v2] H E := by
  refine ⟨(show 2 ≤ 1000 by decide), fun a ha => ⟨a, v, v2, rfl, upd_same, fun dx h1 h2 => ⟨rfl, dx, [(g2, v2), (g, v)], ?_, upd_same, ?_, h dx _ ?_ ?_ upd_same⟩⟩⟩
  · rw [upd_ne (Ne.symm h2), upd_same]
  · rw [upd_ne h2] at h1; exact h1
  · rw [upd_ne h2] at h1; exact h1
  · intro b o e
    have n1 : b ≠ a := ne_of_none e ha
    have n2 : b ≠ dx := by
      rw [upd_ne h2] at h1
      exact ne_of_none e h1
    rw [upd_ne n2, del_ne n1, upd_ne n2, upd_ne n1, upd_ne n2, upd_ne n1]
    exact e
end L3
end
section
namespace L3
open PySem PySem.Spec PySem.Calls PyProof.Rows PySem.W PySem.TypeEq
end L3
namespace L3
open PySem PySem.Spec PyProof.Rows L2 LamX
/-- two functions made by lambdas -/
def FnAt (H : Hp) (f : Addr) : Prop := H f = some (FnV f)
theorem FnAt.exN {H H' : Hp} {f : Addr} (h : FnAt H f) (e : ExtN H H') : FnAt H' f := e _ _ h fun _ z => by unfold FnV at z; cases z
end L3
end
section
namespace L3
open PySem PySem.Spec PyProof.Rows L2 LamX
/-- a number within, or anything else -/
def InB (v : V) (a b : Int) : Prop := ∃ i, v = .int i ∧ a ≤ i ∧ i ≤ b
def OutB (H : Hp) (v : V) (a b : Int) : Prop := (∃ t, Od H v t) ∨ ∃ i, v = .int i ∧ ¬ (a ≤ i ∧ i ≤ b)
theorem OutB.exN {H H' : Hp} {v : V} {a b : Int} (h : OutB H v a b) (e : ExtN H H') : OutB H' v a b := h.imp (fun ⟨t, h⟩ => ⟨t, h.exN e⟩) id
/-- a number or another value -/
def Kv (H : Hp) (v : V) : Prop := (∃ i, v = .int i) ∨ ∃ t, Od H v t
theorem Kv.exN {H H' : Hp} {v : V} (h : Kv H v) (e : ExtN H H') : Kv H' v := h.imp id fun ⟨t, h⟩ => ⟨t, h.exN e⟩
theorem Kv.ex {H H' : Hp} {v : V} (h : Kv H v) (e : Ex H H') : Kv H' v := h.exN e.n
theorem Kv.keep {H H' : Hp} {p : Addr} {v : V} (h : Kv H v) (hn : v ≠ .ref p) (k : ∀ b o, b ≠ p → H b = some o → H' b = some o) : Kv H' v := h.imp id fun ⟨t, h⟩ => ⟨t, h.keep hn k⟩
def fxF (i : Int) (t : Addr) : List (Str × V) := putF "modulus" (.int 1) (putF "parts" (.ref t) (putF "size" (.int i) []))
def Fx (C : Addr) (H : Hp) (q : Addr) (i : Int) : Prop := ∃ dx t, H q = some (.ins C dx (fxF i t)) ∧ H t = some (.tup [.ref q])
def dvF (x y w : Int) (t : Addr) : List (Str × V) := putF "modulus" (.int w) (putF "parts" (.ref t) (putF "w" (.int w) (putF "y" (.int y) (putF "x" (.int x) []))))
def Dv (C : Addr) (H : Hp) (q : Addr) (x y w : Int) : Prop := ∃ dx t, H q = some (.ins C dx (dvF x y w t)) ∧ H t = some (.tup [.ref q])
def byF (f t : Addr) : List (Str × V) := putF "modulus" (.int 1) (putF "parts" (.ref t) (putF "function" (.ref f) []))
def Byr (C : Addr) (H : Hp) (q f : Addr) : Prop := ∃ dx t, H q = some (.ins C dx (byF f t)) ∧ H t = some (.tup [])
section
variable {C CS CR : Addr} {H H' : Hp} {Q : VK} {E : XK}
theorem Fx.exN {q : Addr} {i : Int} (h : Fx C H q i) (e : ExtN H H') : Fx C H' q i := by
  obtain ⟨dx, t, a, b⟩ := h
  exact ⟨dx, t, e _ _ a (fun _ z => nomatch z), e _ _ b (fun _ z => nomatch z)⟩
theorem Fx.ex {q : Addr} {i : Int} (h : Fx C H q i) (e : Ex H H') : Fx C H' q i := h.exN e.n
theorem Dv.exN {q : Addr} {x y w : Int} (h : Dv C H q x y w) (e : ExtN H H') : Dv C H' q x y w := by
  obtain ⟨dx, t, a, b⟩ := h
  exact ⟨dx, t, e _ _ a (fun _ z => nomatch z), e _ _ b (fun _ z => nomatch z)⟩
theorem Dv.ex {q : Addr} {x y w : Int} (h : Dv C H q x y w) (e : Ex H H') : Dv C H' q x y w := h.exN e.n
theorem Byr.exN {q f : Addr} (h : Byr C H q f) (e : ExtN H H') : Byr C H' q f := by
  obtain ⟨dx, t, a, b⟩ := h
  exact ⟨dx, t, e _ _ a (fun _ z => nomatch z), e _ _ b (fun _ z => nomatch z)⟩
def WrD (H : Hp) (a b c : V) (z : Str) : Prop := (OutB H a 0 24 ∧ z = "x") ∨ (InB a 0 24 ∧ OutB H b (-1000) 1000 ∧ z = "y") ∨ (InB a 0 24 ∧ InB b (-1000) 1000 ∧ OutB H c 1 24 ∧ z = "w")
theorem WrD.exN {a b c : V} {z : Str} (h : WrD H a b c z) (e : ExtN H H') : WrD H' a b c z := by
  rcases h with ⟨h, r⟩ | ⟨i, h, r⟩ | ⟨i, j, h, r⟩
  · exact .inl ⟨h.exN e, r⟩
  · exact .inr (.inl ⟨i, h.exN e, r⟩)
  · exact .inr (.inr ⟨i, j, h.exN e, r⟩)
end
end L3
end
section
namespace L3
open PySem PySem.Spec PyProof.Rows L2 LamX
section
variable {K : PySem.W.Frag} {σ : L2.St} {H H' : Hp} {Q : VK} {C CR CS CF CD : Addr}
/-- the list of other values -/
def OddL (H : Hp) (l : Addr) : Prop := ∃ t e d, H l = some (.lst [.non, .bl true, .str "1", .ref t, .ref e, .ref d, .bl false]) ∧ H t = some (.tup [.int 1]) ∧ H e = some (.lst []) ∧ H d = some (.dK [])
theorem OddL.ex {l : Addr} (h : OddL H l) (e : Ex H H') : OddL H' l := by
  obtain ⟨t, a, d, h1, h2, h3, h4⟩ := h
  exact ⟨t, a, d, e _ _ h1, e _ _ h2, e _ _ h3, e _ _ h4⟩
theorem OddL.keep {l p : Addr} {n : Nat} (h : OddL H l) (hp : Pen H p n) (k : ∀ b o, b ≠ p → H b = some o → H' b = some o) : OddL H' l := by
  obtain ⟨t, a, d, h1, h2, h3, h4⟩ := h
  have nn : ∀ {q : Addr} {o : HO}, H q = some o → (∀ c n, o ≠ PenO p c n) → H' q = some o := fun {q o} e z => k _ _ (hp.ne e z) e
  exact ⟨t, a, d, nn h1 (fun c n z => by unfold PenO at z; cases z), nn h2 (fun c n z => by unfold PenO at z; cases z), nn h3 (fun c n z => by unfold PenO at z; cases z), nn h4 (fun c n z => by unfold PenO at z; cases z)⟩
theorem Byr.ex {q f : Addr} (h : Byr C H q f) (e : Ex H H') : Byr C H' q f := h.exN e.n
theorem FnAt.ex {f : Addr} (h : FnAt H f) (e : Ex H H') : FnAt H' f := h.exN e.n
end
end L3
end
section
namespace L3
open PySem PySem.Spec PySem.HandSPX
end L3
end
section
namespace L3
open PySem PySem.Spec PyProof.Rows L2 LamX
def LamF (f : Addr) (q : Str) (params : Arguments) (body : Expr) (scope : Scope) (c' : Addr) : HO := .ext fun h => ∃ pm ctv, h.get? f = some (PySem.W.kla_obj "<lambda>" q params body scope [] pm c' ctv)
/-- what is promised of such a lambda, wherever it is called -/
structure Lam1 (P : Program) (w : World) (K : PySem.W.Frag) (mg : Str → Option Value) (base : Heap) (k : Nat) (x : Str) (q : Str) (params : Arguments) (body : Expr) (scope : Scope) (sp : Sp) : Prop where
  bind : ∀ (pm cv ctv u : Value), bindArgs (PySem.W.kla_fn "<lambda>" q params body scope [] pm cv ctv) ⟨[u], []⟩ = pure [(x, u)]
  sc : FnScope [x] [x] scope
  body : ∀ (A : Around) (outer : List Env) (s : Shared) (H : Hp) (E : XK) (f c' : Addr) (v : V) (Q : VK), Room k (A.deeper (envOfC q scope s.heap.objs.size f (.ref c'))) → sp [v] H Q E → ∃ t, PE (cxOf CX0 P w K mg base [x] q scope f (.ref c') A outer s H E) body t ∧ t [some v] H Q
def LamAt (P : Program) (w : World) (K : PySem.W.Frag) (mg : Str → Option Value) (base : Heap) (k : Nat) (H : Hp) (f : Addr) (sp : Sp) : Prop :=
  ∃ (x q : Str) (params : Arguments) (body : Expr) (scope : Scope) (c' : Addr), H f = some (LamF f q params body scope c') ∧ H c' = some (CodeO c' q) ∧ Lam1 P w K mg base k x q params body scope sp
theorem LamAt.exN {P : Program} {w : World} {K : PySem.W.Frag} {mg : Str → Option Value} {base : Heap} {k : Nat} {H H' : Hp} {f : Addr} {sp : Sp} (h : LamAt P w K mg base k H f sp) (e : ExtN H H') : LamAt P w K mg base k H' f sp := by
  obtain ⟨x, q, params, body, scope, c', h1, h2, h3⟩ := h
  exact ⟨x, q, params, body, scope, c', e _ _ h1 (fun _ z => by unfold LamF at z; cases z), e _ _ h2 codeO_ne, h3⟩
theorem LamAt.keep {P : Program} {w : World} {K : PySem.W.Frag} {mg : Str → Option Value} {base : Heap} {k : Nat} {H H' : Hp} {f : Addr} {sp : Sp} (h : LamAt P w K mg base k H f sp) (e : ∀ b o, H b = some o → (∃ f q a b s c, o = LamF f q a b s c) ∨ (∃ c q, o = CodeO c q) → H' b = some o) : LamAt P w K mg base k H' f sp := by
  obtain ⟨x, q, params, body, scope, c', h1, h2, h3⟩ := h
  exact ⟨x, q, params, body, scope, c', e _ _ h1 (.inl ⟨_, _, _, _, _, _, rfl⟩), e _ _ h2 (.inr ⟨_, _, rfl⟩), h3⟩
def tCallF (P : Program) (w : World) (K : PySem.W.Frag) (mg : Str → Option Value) (base : Heap) (k : Nat) (tf : TE) (ta : TA) : TE := fun σ H Q =>
  tf σ H fun fv H1 => ∃ (f : Addr) (sp : Sp), fv = .ref f ∧ LamAt P w K mg base k H1 f sp ∧ ta σ H1 fun vs H2 => ∃ v, vs = [v] ∧ LamAt P w K mg base k H2 f sp ∧ sp [v] H2 Q (fun _ _ _ => False)
end L3
end
section
namespace L3
open PySem PySem.Spec PyProof.Rows L2 LamX
def ErAt (H : Hp) (a C : Addr) (fs : List (Str × V)) : Prop := (∃ d, H a = some (exo a C (some d)) ∧ H d = some (exd d fs)) ∨ (fs = [] ∧ H a = some (exo a C none))
theorem exo_tbl {e C : Addr} {d : Option Addr} : ∀ ps, exo e C d ≠ .tbl ps := fun _ z => by unfold exo at z; cases z
theorem exd_tbl {d : Addr} {fs : List (Str × V)} : ∀ ps, exd d fs ≠ .tbl ps := fun _ z => by unfold exd at z; cases z
theorem ErAt.exN {H H' : Hp} {a C : Addr} {fs : List (Str × V)} (h : ErAt H a C fs) (e : ExtN H H') : ErAt H' a C fs := by
  rcases h with ⟨d, h1, h2⟩ | ⟨h1, h2⟩
  · exact .inl ⟨d, e _ _ h1 exo_tbl, e _ _ h2 exd_tbl⟩
  · exact .inr ⟨h1, e _ _ h2 exo_tbl⟩
def tLstN (t : TA) : TE := fun σ H Q => t σ H fun xs H1 => xs.length ≤ sizeLine ∧ ∀ p, H1 p = none → p ≠ sysModules → ap Q (.ref p) (upd H1 p (.lst xs))
def litB : V → Bool
  | .int _ => true
  | .bl _ => true
  | .str _ => true
  | .non => true
  | _ => false
def litD : V → PyData
  | .int i => .int i
  | .bl b => .bool b
  | .str z => .str z
  | _ => .none
inductive Vd (H : Hp) : V → PyData → Prop
  | non : Vd H .non .none
  | bl (b : Bool) : Vd H (.bl b) (.bool b)
  | int (i : Int) : Vd H (.int i) (.int i)
  | str (z : Str) : Vd H (.str z) (.str z)
  | tup {p : Addr} {xs : List V} : H p = some (.tup xs) → xs.all litB = true → Vd H (.ref p) (.tuple (xs.map litD))
  | lst {p : Addr} {xs : List V} : H p = some (.lst xs) → p ≠ sysModules → xs.all litB = true → Vd H (.ref p) (.list (xs.map litD))
  | d0 {p : Addr} : H p = some (.dK []) → Vd H (.ref p) (.dict [])
  | d1 {p : Addr} {k v : Str} : H p = some (.dK [(.inr k, .str v)]) → Vd H (.ref p) (.dict [(.str k, .str v)])
theorem Vd.map {H H' : Hp} {v : V} {d : PyData} (h : Vd H v d) (f : ∀ a o, v = .ref a → H a = some o → (∀ ps, o ≠ .tbl ps) → H' a = some o) : Vd H' v d := by
  cases h with
  | non => exact .non
  | bl b => exact .bl b
  | int i => exact .int i
  | str z => exact .str z
  | tup h1 h2 => exact .tup (f _ _ rfl h1 fun _ z => nomatch z) h2
  | lst h1 h2 h3 => exact .lst (f _ _ rfl h1 fun _ z => nomatch z) h2 h3
  | d0 h1 => exact .d0 (f _ _ rfl h1 fun _ z => nomatch z)
  | d1 h1 => exact .d1 (f _ _ rfl h1 fun _ z => nomatch z)
theorem Vd.exN {H H' : Hp} {v : V} {d : PyData} (h : Vd H v d) (e : ExtN H H') : Vd H' v d := h.map fun a o _ h n => e a o h n
theorem Vd.ex {H H' : Hp} {v : V} {d : PyData} (h : Vd H v d) (e : Ex H H') : Vd H' v d := h.exN e.n
inductive VdAll (H : Hp) : List V → List PyData → Prop
  | nil : VdAll H [] []
  | cons {v : V} {d : PyData} {vs : List V} {ds : List PyData} : Vd H v d → VdAll H vs ds → VdAll H (v :: vs) (d :: ds)
theorem VdAll.exN {H H' : Hp} {vs : List V} {ds : List PyData} (h : VdAll H vs ds) (e : ExtN H H') : VdAll H' vs ds := by
  induction h with
  | nil => exact .nil
  | cons a _ b => exact .cons (a.exN e) b
end L3
end
section
namespace L3
open PySem PySem.Spec PyProof.Rows L2 LamX
section
variable {σ : L2.St} {H : Hp} {te : TE} {Q : VK} {K : PySem.W.Frag}
def spTell (K : PySem.W.Frag) (gs : List Str) : Sp := fun xs H Q _ => ∃ a C fs vs, xs = [.ref a] ∧ ErAt H a C fs ∧ XfC K C ∧ (∀ g ∈ gs, PySem.W.findIn K (.ref C) g = some none) ∧ gs.map (fun g => fs.lookup g) = vs.map some ∧ vs.length ≤ 1000 ∧
  ∀ p H', p ≠ sysModules → H p = none → Ex H H' → H' p = some (.lst vs) → Q (.ref p) H'
def spKind (K : PySem.W.Frag) (C : Addr) : Sp := fun xs H Q _ => ∃ a D fs b, xs = [.ref a] ∧ ErAt H a D fs ∧ ExcC K D ∧ PySem.W.kitOne K (.ref D) (.ref C) = some b ∧ Q (.bl b) H
/-- one row: an error, what tells it, what is due, its number -/
def Row (Lm : Hp → Addr → Sp → Prop) (K : PySem.W.Frag) (cs : List Addr) (v1 v2 : V) (H : Hp) (v : V) : Prop := ∃ t e f l j fs gs vs, v = .ref t ∧ H t = some (.tup [.ref e, .ref f, .ref l, .int ((j : Nat) : Int)]) ∧ j < 26 ∧ ErAt H e (cs.getD j 0) fs ∧ Lm H f (spTell K gs) ∧ H l = some (.lst vs) ∧ l ≠ sysModules ∧
  (∀ g ∈ gs, PySem.W.findIn K (.ref (cs.getD j 0)) g = some none) ∧ gs.map (fun g => fs.lookup g) = vs.map some ∧ (∀ x ∈ vs, x = v1 ∨ x = v2) ∧ vs.length ≤ 2
theorem Row.exN {Lm : Hp → Addr → Sp → Prop} (hL : ∀ H H' f sp, Lm H f sp → ExtN H H' → Lm H' f sp) {cs : List Addr} {v1 v2 : V} {H H' : Hp} {v : V} (h : Row Lm K cs v1 v2 H v) (e : ExtN H H') : Row Lm K cs v1 v2 H' v := by
  obtain ⟨t, e0, f, l, j, fs, gs, vs, h1, h2, h3, h4, h5, h6, h7⟩ := h
  exact ⟨t, e0, f, l, j, fs, gs, vs, h1, e _ _ h2 (fun _ z => nomatch z), h3, h4.exN e, hL _ _ _ _ h5 e, e _ _ h6 (fun _ z => nomatch z), h7⟩
end
section
variable {σ : L2.St} {H : Hp} {Q : VK} {K : PySem.W.Frag}
theorem s_lstN {t : TA} (h : t σ H fun xs H1 => xs.length ≤ sizeLine ∧ ∀ p, H1 p = none → p ≠ sysModules → ap Q (.ref p) (upd H1 p (.lst xs))) : tLstN t σ H Q := h
theorem s_callF {P : Program} {w : World} {mg : Str → Option Value} {base : Heap} {k : Nat} {tf : TE} {ta : TA} (h : tf σ H fun fv H1 => ∃ (f : Addr) (sp : Sp), fv = .ref f ∧ LamAt P w K mg base k H1 f sp ∧ ta σ H1 fun vs H2 => ∃ v, vs = [v] ∧ LamAt P w K mg base k H2 f sp ∧ sp [v] H2 Q (fun _ _ _ => False)) : tCallF P w K mg base k tf ta σ H Q := h
def KindsAt (Lm : Hp → Addr → Sp → Prop) (K : PySem.W.Frag) (cs : List Addr) (H : Hp) (l : Addr) : Prop := ∃ xs, H l = some (.lst xs) ∧ xs.length = 26 ∧ ∀ j, j < 26 → ∃ f, xs[j]? = some (.ref f) ∧ Lm H f (spKind K (cs.getD j 0))
theorem KindsAt.exN {Lm : Hp → Addr → Sp → Prop} (hL : ∀ H H' f sp, Lm H f sp → ExtN H H' → Lm H' f sp) {cs : List Addr} {H H' : Hp} {l : Addr} (h : KindsAt Lm K cs H l) (e : ExtN H H') : KindsAt Lm K cs H' l := by
  obtain ⟨xs, h1, h2, h3⟩ := h
  exact ⟨xs, e _ _ h1 (fun _ z => nomatch z), h2, fun j hj => (h3 j hj).imp fun f h => ⟨h.1, hL _ _ _ _ h.2 e⟩⟩
end
end L3
end
section
namespace L3
open PySem PySem.Spec PyProof.Rows L2 LamX
inductive Pq (K : PySem.W.Frag) (H : Hp) : V → V → Bool → Prop
  | dat {x y : V} {d e : PyData} : Dp K H x d → Dp K H y e → SeqAt.shaped d = true → SeqAt.shaped e = true → Pq K H x y (PyData.eqv d e)
  | d0 {p : Addr} : H p = some (.dK []) → Pq K H (.ref p) (.ref p) true
  | d1 {p : Addr} {k v : Str} : H p = some (.dK [(.inr k, .str v)]) → Pq K H (.ref p) (.ref p) true
end L3
end
section
namespace L3
open PySem PySem.Spec PyProof.Rows L2 LamX
section
variable {K : PySem.W.Frag} {σ : L2.St} {H H' : Hp} {Q : VK} {C : Addr}
def PaAt (H : Hp) (q C : Addr) (fs : List (Str × V)) : Prop := ∃ dx, H q = some (.ins C dx fs)
theorem PaAt.exN {q : Addr} {fs : List (Str × V)} (h : PaAt H q C fs) (e : ExtN H H') : PaAt H' q C fs := h.imp fun _ h => e _ _ h fun _ z => nomatch z
theorem PaAt.ex {q : Addr} {fs : List (Str × V)} (h : PaAt H q C fs) (e : Ex H H') : PaAt H' q C fs := h.exN e.n
end
section
variable {K : PySem.W.Frag} {σ : L2.St} {H H' : Hp} {Q : VK} {C : Addr}
theorem Pq.ex {x y : V} {b : Bool} (h : Pq K H x y b) (e : Ex H H') : Pq K H' x y b := by
  have sl : ∀ a xs, SqL K H a xs → SqL K H' a xs := fun a xs h => by
    rcases h with (h | ⟨o, h⟩) | h
    · exact .inl (.inl (e _ _ h))
    · exact .inl (.inr ⟨o, e _ _ h⟩)
    · exact .inr h
  have st : ∀ a xs, SqT K H a xs → SqT K H' a xs := fun a xs h => by
    rcases h with (h | ⟨o, h⟩) | h
    · exact .inl (.inl (e _ _ h))
    · exact .inl (.inr ⟨o, e _ _ h⟩)
    · exact .inr h
  cases h with
  | dat h1 h2 h3 h4 => exact .dat (Dp.exN e.n _ _ sl st h1) (Dp.exN e.n _ _ sl st h2) h3 h4
  | d0 h => exact .d0 (e _ _ h)
  | d1 h => exact .d1 (e _ _ h)
def spTellP (K : PySem.W.Frag) (gs : List Str) : Sp := fun xs H Q _ => ∃ a C fs vs, xs = [.ref a] ∧ PaAt H a C fs ∧ Cls K C ∧ (∀ g ∈ gs, NoAttr K C g) ∧ gs.map (fun g => fs.lookup g) = vs.map some ∧
  ∀ p H', p ≠ sysModules → H p = none → Ex H H' → H' p = some (.lst vs) → Q (.ref p) H'
structure RowD where
  c : Nat
  fs : List (Str × V)
  gs : List Str
  vs : List V
  B : V
def RowAt (Lm : Hp → Addr → Sp → Prop) (K : PySem.W.Frag) (cs : List Addr) (H : Hp) (x : V) (r : RowD) : Prop := ∃ t e f l, x = .ref t ∧ H t = some (.tup [.ref e, .ref f, .ref l, r.B]) ∧ PaAt H e (cs.getD r.c 0) r.fs ∧ Lm H f (spTellP K r.gs) ∧ H l = some (.lst r.vs) ∧ l ≠ sysModules
theorem RowAt.exN {Lm : Hp → Addr → Sp → Prop} (hL : ∀ H H' f sp, Lm H f sp → ExtN H H' → Lm H' f sp) {cs : List Addr} {x : V} {r : RowD} (h : RowAt Lm K cs H x r) (e : ExtN H H') : RowAt Lm K cs H' x r := by
  obtain ⟨t, e0, f, l, h1, h2, h3, h4, h5, h6⟩ := h
  exact ⟨t, e0, f, l, h1, e _ _ h2 (fun _ z => nomatch z), h3.exN e, hL _ _ _ _ h4 e, e _ _ h5 (fun _ z => nomatch z), h6⟩
end
end L3
end
section
namespace L3
open PySem PySem.Calls PyProof.Rows
end L3
namespace L3
open PySem PySem.Spec PyProof.Rows L2 LamX StX RZ
structure McR (P : Program) (w : World) (K : PySem.W.Frag) (mg : Str → Option Value) (base : Heap) (CX : CXT) (k : Nat) (x : Str) (C : Addr) (sp : Sp) : Prop where
  ex : ∃ f, FnR P w K mg base CX k f sp ∧ mg x = some (.ref C) ∧ Mk K C f
section
variable {X : Cx} {CX : CXT} {k j : Nat} {C : Addr} {sp : Sp} {E : XK} {x : Str} {e e2 : Expr} {es : List Expr} {te : TE} {t : TA} {p sp_ pos : Pos}
theorem pe_mkRS (c : McR X.prog X.w X.K X.mg X.base CX k x C sp) (hr : Room j X.A) (hx : Passes CX X E) (he : PE X e te) (hk : k + 1 ≤ j := by decide) (gl : Gl X x := by rfl)
    (hdb : (x == ("__debug__" : Str)) = false := by decide) (hst : starEach [.Starred e sp_] X.env = [(true, eval e X.env)] := by rfl) : PE X (.Call (.Name x p) [.Starred e sp_] [] pos) (tMakeR C sp E (tStar X.K te tNil)) := by
  obtain ⟨f, F, m, M⟩ := c.ex
  refine ⟨fun pins s σ H Q I h => ?_⟩
  refine wpAny_Call_Name_kw (ld_glob I gl m ?_ hdb)
  refine PySem.W.callWith_S (h₀ := X.base) I.ok.mod.kin M.kp (thn (he.run pins s σ H _ I h) fun v s1 ⟨y, H1, I1, ry, a, xs, ey, hxs, q⟩ => ?_) hst
  subst ey
  obtain rfl : v = Value.ref a := ry
  refine star_any I1 hxs fun us s2 I2 rv => ⟨I2.kIn, ?_⟩
  have q' := q
  unfold tNil at q'
  dsimp only at q'
  rw [List.append_nil] at q'
  exact run_makeR M F (hr.mono hk) hx I2 rv q'
end
/-- the promise of an __init__(self, *xs), by that of its body -/
def spSt (sp : Sp) : Sp := fun vs H Q E => ∃ ws rest, vs = ws ++ rest ∧ ws.length = 1 ∧ rest.length ≤ sizeLine ∧ ∀ p, H p = none → sp (ws ++ [V.ref p]) (upd H p (.tup rest)) Q E
section
variable {K : PySem.W.Frag} {σ : L2.St} {H : Hp} {Q : VK} {te ta : TE} {t : TA} {C : Addr} {sp : Sp} {E : XK}
theorem s_star {R : List V → Hp → Prop} (h : te σ H fun x H1 => ∃ p xs, x = V.ref p ∧ (SqT K H1 p xs ∨ SqL K H1 p xs) ∧ t σ H1 fun ys H2 => R (xs ++ ys) H2) : tStar K te t σ H R := h
theorem s_mkCR (h : t σ H fun vs H1 => ∀ x dx, H1 x = none → H1 dx = none → dx ≠ x → sp (V.ref x :: vs) (upd (upd H1 dx (.own x)) x (.ins C dx [])) (fun v H2 => v = .non ∧ ap Q (.ref x) H2) E) : tMakeR C sp E t σ H Q := h
end
/-- a def with one parameter ahead of *xs -/
theorem funStar {P : Program} {w : World} {K : PySem.W.Frag} {mg : Str → Option Value} {base : Heap} {k : Nat} {x qual : Str} {st : Stmt} {f : Addr} {fd : FuncData} {N : List Str} {p1 pv : Str} {sp : Sp} (F : L2.Fun K x qual st f fd) (S : FnScope N [p1, pv] (defScope st))
    (h0 : ∀ (kV doc pm : Value) (an : Option Addr) (cdv ct : Value) a, bindArgs (PySem.W.fnOf x qual (defArgs st) (defBody st) (defScope st) .none kV doc pm an cdv ct) ⟨[a], []⟩ = (newTuple [] >>= fun t => pure [(p1, a), (pv, t)]))
    (h1 : ∀ (kV doc pm : Value) (an : Option Addr) (cdv ct : Value) a r rs, bindArgs (PySem.W.fnOf x qual (defArgs st) (defBody st) (defScope st) .none kV doc pm an cdv ct) ⟨a :: r :: rs, []⟩ = (newTuple (r :: rs) >>= fun t => pure [(p1, a), (pv, t)]))
    (body : ∀ (cd : Value) (A : Around) (fr : List Env) (s : Shared) (H : Hp) (vs : List V) (Q : VK) (E : XK), Room k (A.deeper (envOfC qual (defScope st) s.heap.objs.size f cd)) → sp vs H Q E →
      ∃ t, PSs (cxOf (L2.CX P w) P w K mg base N qual (defScope st) f cd A fr s H E) (defBody st) t ∧ t { nx := fun _ H' => Q .non H', rt := Q } (L2.start N vs) H) :
    FnR P w K mg base (L2.CX P w) (k + 1) f (spSt sp) := by
  obtain ⟨oc, od, kV, doc, pm, an, cd, ct, sl, rfl, lk, hcd⟩ := F.ex
  exact fn_star (ps := [p1]) (pv := pv) lk hcd S cxUp (bind_star1 (B := fun us => bindArgs (PySem.W.fnOf x qual (defArgs st) (defBody st) (defScope st) .none kV doc pm an cd ct) ⟨us, []⟩) (h0 kV doc pm an cd ct) (h1 kV doc pm an cd ct)) fun A outer s H vs Q E hr h => body cd A outer s H vs Q E hr h
theorem TyA.exN {K : PySem.W.Frag} {H H' : Hp} {v : V} {t : Value} (h : TyA K H v t) (e : ExtN H H') : TyA K H' v t := by
  cases h with
  | x h =>
    refine .x ?_
    cases h with
    | base h =>
      refine .base ?_
      cases h with
      | non => exact .non
      | bl b => exact .bl b
      | int i => exact .int i
      | str z => exact .str z
      | flt z => exact .flt z
      | lst h => exact .lst (e _ _ h fun _ z => nomatch z)
      | frz h => exact .frz (e _ _ h fun _ z => nomatch z)
      | tup h => exact .tup (e _ _ h fun _ z => nomatch z)
      | dK h => exact .dK (e _ _ h fun _ z => nomatch z)
      | dT h => exact .dT (e _ _ h fun _ z => nomatch z)
      | ins h a b c d f => exact .ins (e _ _ h fun _ z => nomatch z) a b c d f
    | byt b => exact .byt b
    | set h => exact .set (e _ _ h fun _ z => nomatch z)
    | kList h c => exact .kList h c
    | kTuple h c => exact .kTuple h c
    | kDict h c => exact .kDict h c
    | fTuple h => exact .fTuple (e _ _ h fun _ z => nomatch z)
    | fDict h => exact .fDict (e _ _ h fun _ z => nomatch z)
  | fn h => exact .fn (e _ _ h fun _ z => by unfold FnV at z; cases z)
/-- a value that is no number -/
def NI (K : PySem.W.Frag) (H : Hp) (v : V) : Prop := (∃ b, v = .bl b) ∨ ∃ ty, TyA K H v ty ∧ PySem.W.kitOne K ty (.type "int") = some false
/-- a value that is none of a class -/
def NC (K : PySem.W.Frag) (H : Hp) (u : Value) (v : V) : Prop := ∃ ty, TyA K H v ty ∧ PySem.W.kitOne K ty u = some false
theorem NI.exN {K : PySem.W.Frag} {H H' : Hp} {v : V} (h : NI K H v) (e : ExtN H H') : NI K H' v := h.imp id fun ⟨ty, a, b⟩ => ⟨ty, a.exN e, b⟩
theorem NC.exN {K : PySem.W.Frag} {H H' : Hp} {u : Value} {v : V} (h : NC K H u v) (e : ExtN H H') : NC K H' u v := by
  obtain ⟨ty, a, b⟩ := h
  exact ⟨ty, a.exN e, b⟩
/-- no number, or one beyond its bounds -/
def OutS (K : PySem.W.Frag) (H : Hp) (x : V) (a b : Int) : Prop := NI K H x ∨ ∃ i, x = .int i ∧ ¬ (a ≤ i ∧ i ≤ b)
theorem OutS.exN {K : PySem.W.Frag} {H H' : Hp} {x : V} {a b : Int} (h : OutS K H x a b) (e : ExtN H H') : OutS K H' x a b := h.imp (fun h => h.exN e) id
def spIsI2 (K : PySem.W.Frag) : Sp := fun vs H Q _ => ∃ x, vs = [x] ∧ ((∃ i, x = .int i ∧ Q (.bl true) H) ∨ (NI K H x ∧ Q (.bl false) H))
def spWithin2 (K : PySem.W.Frag) : Sp := fun vs H Q _ => ∃ x a b, vs = [x, .int a, .int b] ∧ ((∃ i, x = .int i ∧ a ≤ i ∧ i ≤ b ∧ Q (.bl true) H) ∨ (OutS K H x a b ∧ Q (.bl false) H))
def spSize2 (K : PySem.W.Frag) : Sp := fun vs H Q _ => ∃ x, vs = [x] ∧ ((∃ i, x = .int i ∧ 1 ≤ i ∧ i ≤ 10 ^ 30 ∧ Q (.bl true) H) ∨ (OutS K H x 1 (10 ^ 30) ∧ Q (.bl false) H))
section
variable {K : PySem.W.Frag} {σ : L2.St} {H : Hp} {Q : VK}
theorem s_lcZ {te : TE} {g : TG} {tt : TT} {vs : List Nat} {ta : TA} (h : ta σ H fun ws H1 => ∃ a b xs ys, ws = [.ref a, .ref b] ∧ ((SqL K H1 a xs ∧ SqL K H1 b ys ∧ LC (Itz K a b) g tt te vs σ H1 Q) ∨ (SqT K H1 a xs ∧ SqT K H1 b ys ∧ LC (ItzT K a b) g tt te vs σ H1 Q))) : tLc (iZipA K ta) g tt te vs σ H Q := h
theorem walk_zipT {a b : Addr} {xs ys : List V} {n : Nat} (hn : n = min xs.length ys.length) : L2.Walk (ItzT K a b) n (fun H => SqT K H a xs ∧ SqT K H b ys) (YPair (fun i => xs[i]?) (fun i => ys[i]?)) := by
  subst hn
  refine ⟨fun i _ hi q => ?_, fun _ q => ⟨xs, ys, q.1, q.2, by omega⟩, fun i H v H' _ q y => ?_⟩
  · have h1 : i < xs.length := by omega
    have h2 : i < ys.length := by omega
    exact ⟨xs, ys, xs[i], ys[i], q.1, q.2, by simp [h1], by simp [h2]⟩
  · obtain ⟨T, x, z, h1, h2, h3, h4, h5⟩ := y
    exact ⟨T, x, z, h1, h2, h3, h4 xs q.1, h5 ys q.2⟩
/-- [f(x, y) for x, y in zip(t, u)], t and u tuples -/
theorem lcZT {a b : Addr} {xs ys : List V} {i j : Nat} {te : TE} {vs : List Nat} (f : Nat → V) (hl : xs.length = ys.length) (ha : H a = some (.tup xs)) (hb : H b = some (.tup ys)) (hz : xs.length < sizeLine)
    (hw : ∀ x y, wipe (((wipe σ vs).set i (some x)).set j (some y)) vs = wipe σ vs)
    (he : ∀ (n : Nat) (x y : V) (H1 : Hp) (R : VK), xs[n]? = some x → ys[n]? = some y → Ex H H1 → R (f n) H1 → te (((wipe σ vs).set i (some x)).set j (some y)) H1 R)
    (k : ∀ D H2, H D = none → Ex H H2 → H2 D = some (.lst ((List.range xs.length).map f)) → Q (.ref D) H2) :
    LC (ItzT K a b) (gTup K 2 (gCons (gName i) (gCons (gName j) gNil))) tYes te vs σ H Q := by
  intro D hD
  refine lc_it (walk_zipT (n := xs.length) (by rw [← hl, Nat.min_self])) (fun n H1 => Ex H H1 ∧ H1 D = some (.lst ((List.range n).map f))) ⟨ex_new hD, upd_same⟩ (fun n H1 _ ⟨e, _⟩ => ⟨.inl (.inl (e _ _ ha)), .inl (.inl (e _ _ hb))⟩) ?_ (fun H1 ⟨e, h1⟩ => k D H1 hD e h1)
  rintro n x H1 H2 hn ⟨e, h1⟩ ⟨T, x', y', rfl, hT, rfl, hx, hy⟩
  have e2 : Ex H1 (upd H1 T (.tup [x', y'])) := ex_new hT
  refine s_gT (xs := [x', y']) upd_same rfl ?_
  refine s_gC (s_gC (s_gN ?_))
  refine ⟨hw _ _, ?_⟩
  unfold tYes
  dsimp only
  refine iteT (he n x' y' _ _ hx hy (e.trans e2) ⟨_, e2 _ _ h1, ?_, fun c o hc => ?_, ?_⟩)
  · rw [List.length_map, List.length_range]; omega
  · rw [upd_ne (ne_of_none hc hD)]; exact e2 _ _ (e _ _ hc)
  · rw [upd_same, List.range_succ, List.map_append]; rfl
end
def siz (n : Int) : Prop := 1 ≤ n ∧ n ≤ 10 ^ 30
def endsF : Int → List Int → List Int
  | _, [] => []
  | a, n :: r => (a + n) :: endsF (a + n) r
def endsOf (ns : List Int) : List Int := endsF 0 ns
theorem endsF_len : ∀ (ns : List Int) (a : Int), (endsF a ns).length = ns.length
  | [], _ => rfl
  | n :: r, a => by rw [endsF, List.length_cons, endsF_len r, List.length_cons]
theorem endsF_snoc : ∀ (ns : List Int) (a n : Int), endsF a (ns ++ [n]) = endsF a ns ++ [a + ns.sum + n]
  | [], a, n => by simp [endsF]
  | m :: r, a, n => by
    rw [List.cons_append, endsF, endsF, endsF_snoc r, List.cons_append, List.sum_cons, Int.add_assoc a m]
theorem endsOf_len (ns : List Int) : (endsOf ns).length = ns.length := endsF_len ns 0
theorem endsOf_snoc (ns : List Int) (n : Int) : endsOf (ns ++ [n]) = endsOf ns ++ [ns.sum + n] := by
  have := endsF_snoc ns 0 n
  rw [Int.zero_add] at this
  exact this
theorem take_snoc {α : Type} {l : List α} {i : Nat} {x : α} (h : l[i]? = some x) : l.take (i + 1) = l.take i ++ [x] := by
  rw [List.take_add_one, h]; rfl
def restsOf (ns : List Int) : List Int := (List.range ns.length).map fun i => ns.sum - (endsOf ns).getD i 0 + ns.getD i 0
def ckF (t1 t2 t3 : Addr) (tot : Int) : List (Str × V) := putF "rests" (.ref t3) (putF "total" (.int tot) (putF "ends" (.ref t2) (putF "sizes" (.ref t1) [])))
def Ck (C : Addr) (H : Hp) (q : Addr) (ns : List Int) : Prop := ∃ dx t1 t2 t3, H q = some (.ins C dx (ckF t1 t2 t3 ns.sum)) ∧ H t1 = some (.tup (ns.map V.int)) ∧ H t2 = some (.tup ((endsOf ns).map V.int)) ∧ H t3 = some (.tup ((restsOf ns).map V.int))
theorem Ck.exN {C : Addr} {H H' : Hp} {q : Addr} {ns : List Int} (h : Ck C H q ns) (e : ExtN H H') : Ck C H' q ns := by
  obtain ⟨dx, t1, t2, t3, a, b, c, d⟩ := h
  exact ⟨dx, t1, t2, t3, e _ _ a (fun _ z => nomatch z), e _ _ b (fun _ z => nomatch z), e _ _ c (fun _ z => nomatch z), e _ _ d (fun _ z => nomatch z)⟩
theorem Ck.ex {C : Addr} {H H' : Hp} {q : Addr} {ns : List Int} (h : Ck C H q ns) (e : Ex H H') : Ck C H' q ns := h.exN e.n
theorem Rz.ex' {C : Addr} {g : Str} {v : V} {H H' : Hp} {E : XK} (h : Rz C g v H E) (e : Ex H H') : Rz C g v H' E := fun d H2 hd e2 hx => h d H2 (e.free hd) (e.trans e2) hx
/-- what Chunks(*xs) comes to -/
def CkG (K : PySem.W.Frag) (CB CM : Addr) (H : Hp) (xs : List V) (G : List Int → Prop) (E : XK) : Prop := xs.length ≤ 100000 ∧
  ((∃ ns : List Int, xs = ns.map V.int ∧ (∀ n ∈ ns, siz n) ∧ ((ns.length ≤ 5000 ∧ G ns) ∨ (5000 < ns.length ∧ Rz2 CM "what" "most" (.str "chunks") (.int 5000) H E))) ∨
   ∃ (ns : List Int) (z : V) (rest : List V), xs = ns.map V.int ++ z :: rest ∧ (∀ n ∈ ns, siz n) ∧ OutS K H z 1 (10 ^ 30) ∧ Rz CB "value" z H E)
theorem CkG.ex {K : PySem.W.Frag} {CB CM : Addr} {H H' : Hp} {xs : List V} {G G' : List Int → Prop} {E : XK} (h : CkG K CB CM H xs G E) (e : Ex H H') (g : ∀ ns, G ns → G' ns) : CkG K CB CM H' xs G' E := by
  obtain ⟨h0, ⟨ns, h1, h2, h3⟩ | ⟨ns, z, rest, h1, h2, h3, h4⟩⟩ := h
  · exact ⟨h0, .inl ⟨ns, h1, h2, h3.imp (fun ⟨a, b⟩ => ⟨a, g _ b⟩) fun ⟨a, b⟩ => ⟨a, b.ex e⟩⟩⟩
  · exact ⟨h0, .inr ⟨ns, z, rest, h1, h2, h3.exN e.n, h4.ex' e⟩⟩
def spCk0 (K : PySem.W.Frag) (C CB CM : Addr) : Sp := fun vs H Q E => ∃ p dx t xs, vs = [.ref p, .ref t] ∧ H p = some (.ins C dx []) ∧ t ≠ p ∧ H t = some (.tup xs) ∧ CkG K CB CM H xs (fun ns => ∀ H', (∀ c o, c ≠ p → H c = some o → H' c = some o) → Ck C H' p ns → Q .non H') E
abbrev spCk (K : PySem.W.Frag) (C CB CM : Addr) : Sp := spSt (spCk0 K C CB CM)
def spNeedSize (K : PySem.W.Frag) (CB : Addr) : Sp := fun vs H Q E => ∃ x, vs = [x] ∧ ((∃ i, x = .int i ∧ siz i ∧ Q .non H) ∨ (OutS K H x 1 (10 ^ 30) ∧ Rz CB "value" x H E))
def spNeedFew (CM : Addr) : Sp := fun vs H Q E => ∃ n, vs = [.int n] ∧ ((n ≤ 5000 ∧ Q .non H) ∨ (5000 < n ∧ Rz2 CM "what" "most" (.str "chunks") (.int 5000) H E))
def spEnds : Sp := fun vs H Q _ => ∃ t ns, vs = [.ref t] ∧ H t = some (.tup ((ns : List Int).map V.int)) ∧ ns.length ≤ 100000 ∧ ∀ p H', H p = none → Ex H H' → H' p = some (.tup ((endsOf ns).map V.int)) → Q (.ref p) H'
theorem s_mkCk {K : PySem.W.Frag} {C CB CM : Addr} {H : Hp} {Q : VK} {E : XK} {xs : List V} (h : CkG K CB CM H xs (fun ns => ∀ q H', H q = none → Ex H H' → Ck C H' q ns → Q (.ref q) H') E) :
    ∀ x dx, H x = none → H dx = none → dx ≠ x → spCk K C CB CM (V.ref x :: xs) (upd (upd H dx (.own x)) x (.ins C dx [])) (fun v H2 => v = .non ∧ ap Q (.ref x) H2) E := by
  intro x dx hx hd hn
  have e1 : Ex H (upd (upd H dx (.own x)) x (.ins C dx [])) := fun c o hc => by
    rw [upd_ne (ne_of_none hc hx), upd_ne (ne_of_none hc hd)]; exact hc
  refine ⟨[.ref x], xs, rfl, rfl, Nat.le_trans h.1 (by decide), fun t ht => ?_⟩
  have e2 := e1.trans (ex_new (o := .tup xs) ht)
  have hxt : x ≠ t := fun z => by rw [← z, upd_same] at ht; cases ht
  refine ⟨x, dx, t, xs, rfl, by rw [upd_ne hxt, upd_same], hxt.symm, upd_same, h.ex e2 fun ns g H' k hc => ⟨rfl, g x H' hx (fun c o hc => k c o (ne_of_none hc hx) (e2 _ _ hc)) hc⟩⟩
end L3
end
section
namespace L3
open PySem PySem.Spec PyProof.Rows L2 LamX
structure ClT (K : PySem.W.Frag) (mg : Str → Option Value) (x : Str) (C : Addr) : Prop where
  g : ∃ u, mg x = some u ∧ RelV (.ref C) u
  cl : Cls K C
  kC : PySem.W.kitOne K (.ref C) (.ref C) = some true
  ha : PySem.W.findIn K (.ref C) "__class__" = some (some (.builtin "object.__class__"))
  hn : PySem.W.specialIn K (.builtin "object.__class__") "__get__" = some (some (.builtin "getset_descriptor.__get__"))
  htk : PySem.W.takesIn K (.builtin "object.__class__") = some true
  hm : PySem.W.mroIn K C (.type "object") = some true
theorem ClT.ty {K : PySem.W.Frag} {mg : Str → Option Value} {x : Str} {C : Addr} (T : ClT K mg x C) {H : Hp} {p dx : Addr} {fs : List (Str × V)} (e : H p = some (.ins C dx fs)) : TyA K H (.ref p) (.ref C) := .x (.base (.ins e T.cl T.ha T.hn T.htk T.hm))
structure ErT (K : PySem.W.Frag) (mg : Str → Option Value) (x : Str) (C CL : Addr) (fs : List Str) : Prop where
  g : ∃ u, mg x = some u ∧ RelV (.ref C) u
  exc : ExcC K C
  xf : XfC K C
  nV : ∀ f ∈ fs, PySem.W.findIn K (.ref C) f = some none
  kB : PySem.W.kitOne K (.ref C) (.ref C) = some true
  em : PySem.W.exmOne K (.ref C) (.ref CL) = some true
  kV : PySem.W.kitOne K (.ref C) (.type "ValueError") = some true
/-- neither a list nor a tuple -/
def NLT (K : PySem.W.Frag) (H : Hp) (v : V) : Prop := ∃ t, TyX K H v t ∧ PySem.W.kitAny K t [.type "list", .type "tuple"] = some false
theorem TyX.exN {K : PySem.W.Frag} {H H' : Hp} {v : V} {t : Value} (h : TyX K H v t) (e : ExtN H H') : TyX K H' v t := by
  cases h with
  | base h =>
    refine .base ?_
    cases h with
    | non => exact .non
    | bl b => exact .bl b
    | int i => exact .int i
    | str z => exact .str z
    | flt z => exact .flt z
    | lst h => exact .lst (e _ _ h fun _ z => nomatch z)
    | frz h => exact .frz (e _ _ h fun _ z => nomatch z)
    | tup h => exact .tup (e _ _ h fun _ z => nomatch z)
    | dK h => exact .dK (e _ _ h fun _ z => nomatch z)
    | dT h => exact .dT (e _ _ h fun _ z => nomatch z)
    | ins h a b c d f => exact .ins (e _ _ h fun _ z => nomatch z) a b c d f
  | byt b => exact .byt b
  | set h => exact .set (e _ _ h fun _ z => nomatch z)
  | kList h c => exact .kList h c
  | kTuple h c => exact .kTuple h c
  | kDict h c => exact .kDict h c
  | fTuple h => exact .fTuple (e _ _ h fun _ z => nomatch z)
  | fDict h => exact .fDict (e _ _ h fun _ z => nomatch z)
theorem NLT.exN {K : PySem.W.Frag} {H H' : Hp} {v : V} (h : NLT K H v) (e : ExtN H H') : NLT K H' v := by
  obtain ⟨t, a, b⟩ := h
  exact ⟨t, L3.TyX.exN a e, b⟩
def spOf (K : PySem.W.Frag) (C CB CC CM : Addr) : Sp := fun vs H Q E => ∃ x, vs = [x] ∧ ((∃ a xs, x = .ref a ∧ (H a = some (.lst xs) ∨ H a = some (.tup xs)) ∧ CkG K CB CM H xs (fun ns => ∀ q H', Ex H H' → Ck C H' q ns → Q (.ref q) H') E) ∨ (NLT K H x ∧ Rz CC "part" (.str "sizes") H E))
section
variable {K : PySem.W.Frag} {H H' : Hp} {Q : VK} {C CB CM : Addr} {E : XK}
theorem get_int {ns : List Int} {i : Nat} {x : V} (h : (ns.map V.int)[i]? = some x) : ∃ n, ns[i]? = some n ∧ x = .int n := by
  rw [List.getElem?_map] at h
  cases e : ns[i]? with
  | none => rw [e] at h; cases h
  | some n => rw [e] at h; cases h; exact ⟨n, rfl, rfl⟩
theorem sz100k {n : Nat} (h : n ≤ 100000) : n < sizeLine := Nat.lt_of_le_of_lt h (by decide)
theorem endsOf_take (ns : List Int) : ∀ i, i ≤ ns.length → endsOf (ns.take i) = (endsOf ns).take i := by
  have h : ∀ (ns : List Int) (a : Int) (i : Nat), endsF a (ns.take i) = (endsF a ns).take i := by
    intro ns
    induction ns with
    | nil => intro a i; simp [endsF]
    | cons n r ih =>
      intro a i
      cases i with
      | zero => rfl
      | succ i => rw [List.take_succ_cons, endsF, endsF, List.take_succ_cons, ih]
  exact fun i _ => h ns 0 i
theorem endsOf_get {ns : List Int} {i : Nat} (h : i < ns.length) : (endsOf ns)[i]? = some ((ns.take (i + 1)).sum) := by
  have hx : ns[i]? = some ns[i] := List.getElem?_eq_getElem h
  have e1 := endsOf_take ns (i + 1) (by omega)
  rw [take_snoc hx, endsOf_snoc] at e1
  have e2 : (endsOf (ns.take i) ++ [(ns.take i).sum + ns[i]])[i]? = some ((ns.take i).sum + ns[i]) := by
    rw [List.getElem?_append_right (by rw [endsOf_len, List.length_take]; omega), endsOf_len, List.length_take, Nat.min_eq_left (by omega), Nat.sub_self]; rfl
  rw [e1, List.getElem?_take, if_pos (by omega)] at e2
  rw [e2, take_snoc hx, List.sum_append, List.sum_cons, List.sum_nil, Int.add_zero]
theorem endsOf_last {ns : List Int} (h : ns ≠ []) : atI ((endsOf ns).map V.int) (-1) = some (.int ns.sum) := by
  have hl : 0 < ns.length := by cases ns with | nil => exact absurd rfl h | cons _ _ => simp
  have e : (endsOf ns)[ns.length - 1]? = some ns.sum := by
    rw [endsOf_get (by omega), Nat.sub_add_cancel hl, List.take_length]
  have : atI ((endsOf ns).map V.int) (-1) = ((endsOf ns).map V.int)[ns.length - 1]? := by
    unfold atI
    have hn : ((endsOf ns).map V.int).length = ns.length := by rw [List.length_map, endsOf_len]
    rw [hn]
    have hi : ixN ns.length (-1) = some (ns.length - 1) := by
      unfold ixN
      rw [if_neg (by decide), if_pos (by omega)]
      congr 1
      omega
    rw [hi]; rfl
  rw [this, List.getElem?_map, e]; rfl
end
end L3
end
section
namespace L3
open PySem PySem.Spec PyProof.Rows L2 NumText
theorem strOf_cases (n : Int) : (∃ m : Nat, n = (m : Int) ∧ (strOf n).cps.toList = TL.numL m) ∨ ∃ m : Nat, 0 < m ∧ n = -(m : Int) ∧ (strOf n).cps.toList = 45 :: TL.numL m := by
  rcases Int.lt_or_le n 0 with h | h
  · refine .inr ⟨n.natAbs, by omega, by omega, ?_⟩
    have e : n = -((n.natAbs : Nat) : Int) := by omega
    have := strOf_neg (m := n.natAbs) (by omega)
    rw [← e] at this
    exact this
  · refine .inl ⟨n.toNat, by omega, ?_⟩
    have e : n = ((n.toNat : Nat) : Int) := by omega
    have := strOf_nat n.toNat
    rw [← e] at this
    exact this
theorem numL_45 (m : Nat) : 45 ∉ TL.numL m := TL.numL_free (.inl (by decide))
theorem head_45 (m : Nat) : (TL.numL m).head? ≠ some 45 := fun h => by
  obtain ⟨r, e⟩ := head45 h
  exact numL_45 m (by rw [e]; exact List.mem_cons_self)
theorem val_strOf (n : Int) : valOf (strOf n) = n := by
  unfold valOf
  rcases strOf_cases n with ⟨m, hn, e⟩ | ⟨m, _, hn, e⟩
  · rw [e, if_neg (head_45 m), TL.numL_val]; exact hn.symm
  · rw [e, if_pos (show (45 :: TL.numL m).head? = some 45 from rfl)]
    show -((digitsVal (TL.numL m) : Nat) : Int) = n
    rw [TL.numL_val]; exact hn.symm
theorem figs_strOf (n : Int) : (figsOf (strOf n)).cps.toList = TL.numL n.natAbs := by
  rcases strOf_cases n with ⟨m, hn, e⟩ | ⟨m, _, hn, e⟩
  · rw [figs_pos (by rw [e]; exact head_45 m), e, hn]; rfl
  · rw [figs_neg e, hn]; congr 1; omega
theorem all_digits {l : List Nat} (h : AllDigits l) : l.all isDig = true := List.all_eq_true.mpr fun c hc => (isDig_iff c).mpr (h c hc)
theorem figB_strOf {n : Int} (h : n.natAbs < 10 ^ 4000) : figB (strOf n) = true := by
  have e := figs_strOf n
  have ne : (figsOf (strOf n)).cps.toList ≠ [] := by rw [e]; exact TL.numL_ne _
  have ad : (figsOf (strOf n)).cps.toList.all isDig = true := by rw [e]; exact all_digits (TL.numL_digits _)
  have hb := str_back ne ad
  rw [val_strOf, decide_eq_true rfl] at hb
  have l1 := len_codes (figsOf (strOf n))
  rw [e] at l1
  have l2 := TL.numL_len (n := n.natAbs) (k := 4000) (by decide) h
  have l3 : 0 < (TL.numL n.natAbs).length := List.length_pos_iff.mpr (TL.numL_ne _)
  unfold figB
  rw [← hb, ad, decide_eq_true (show 1 ≤ ((figsOf (strOf n)).length : Int) by omega), decide_eq_true (show ((figsOf (strOf n)).length : Int) ≤ 4000 by omega)]
  rfl
theorem digits_lt (l : List Nat) (h : AllDigits l) : digitsVal l < 10 ^ l.length := by
  have : ∀ n (l : List Nat), l.length = n → AllDigits l → digitsVal l < 10 ^ n := by
    intro n
    induction n with
    | zero => intro l hl _; rw [List.length_eq_zero_iff.mp hl]; decide
    | succ n ih =>
      intro l hl ha
      have hne : l ≠ [] := fun z => by rw [z] at hl; cases hl
      have hd : l = l.dropLast ++ [l.getLast hne] := (List.dropLast_concat_getLast hne).symm
      generalize l.getLast hne = c at hd
      generalize l.dropLast = es at hd
      subst hd
      have hc := ha c (by simp)
      have := ih es (by simp at hl; omega) fun d hd => ha d (by simp [hd])
      rw [val_snoc, Nat.pow_succ]
      omega
  exact this _ l rfl h
theorem join_mem {S : List Nat} : ∀ {ps : List (List Nat)} {p : List Nat}, p ∈ ps → (∀ c ∈ p, c ∈ TL.joinL S ps) ∧ p.length ≤ (TL.joinL S ps).length
  | [], _, h => by cases h
  | [q], p, h => by rw [List.mem_singleton.mp h]; exact ⟨fun c hc => hc, Nat.le_refl _⟩
  | q :: r :: rs, p, h => by
    show (∀ c ∈ p, c ∈ q ++ (S ++ TL.joinL S (r :: rs))) ∧ p.length ≤ (q ++ (S ++ TL.joinL S (r :: rs))).length
    rcases List.mem_cons.mp h with rfl | h
    · exact ⟨fun c hc => List.mem_append_left _ hc, by simp⟩
    · obtain ⟨a, b⟩ := join_mem (S := S) h
      exact ⟨fun c hc => List.mem_append_right _ (List.mem_append_right _ (a c hc)), by simp; omega⟩
def Pg (n : Nat) (z : Str) : Prop := z.length ≤ n ∧ ∀ c ∈ z.cps.toList, c < 1114112
theorem Pg.mono {n m : Nat} {z : Str} (h : Pg n z) (hm : n ≤ m) : Pg m z := ⟨Nat.le_trans h.1 hm, h.2⟩
theorem Pg.app {n m : Nat} {a b : Str} (h1 : Pg n a) (h2 : Pg m b) : Pg (n + m) (a ++ b) := by
  refine ⟨by rw [len_app]; have := h1.1; have := h2.1; omega, fun c hc => ?_⟩
  have e : (a ++ b).cps.toList = a.cps.toList ++ b.cps.toList := TL.tl_append a b
  rw [e] at hc
  rcases List.mem_append.mp hc with hc | hc
  · exact h1.2 c hc
  · exact h2.2 c hc
end L3
end
section
namespace L3
open PySem PySem.Spec PyProof.Rows L2 LamX ClX
section
variable {K : PySem.W.Frag} {σ : L2.St} {H H' : Hp} {Q : VK} {C CT : Addr} {E : XK} {to te ta : TE} {t : TA}
/-- [f(x) for x in xs] -/
theorem lcMap {a : Addr} {xs : List V} {j : Nat} {vs : List Nat} (f : V → V) (ha : H a = some (.lst xs)) (hz : xs.length < sizeLine) (hw : ∀ x, wipe ((wipe σ vs).set j (some x)) vs = wipe σ vs)
    (step : ∀ x, x ∈ xs → ∀ (H1 : Hp) (R : VK), Ex H H1 → (∀ H2, Ex H1 H2 → R (f x) H2) → te ((wipe σ vs).set j (some x)) H1 R)
    (k : ∀ D H2, H D = none → Ex H H2 → H2 D = some (.lst (xs.map f)) → Q (.ref D) H2) : LC (Itl K a) (gName j) tYes te vs σ H Q := by
  intro D hD
  refine lc_list (K := K) (a := a) (xs := xs) (fun n H1 => Ex H H1 ∧ H1 D = some (.lst ((xs.take n).map f))) ⟨ex_new hD, upd_same⟩ (fun n H1 _ ⟨e, _⟩ => .inl (.inl (e _ _ ha))) (fun n x H1 hx ⟨e, hz1⟩ => ?_) (fun H1 ⟨e, hz1⟩ => ?_)
  · refine ⟨hw _, ?_⟩
    unfold tYes
    dsimp only
    refine iteT (step x (List.mem_of_getElem? hx) H1 _ e fun H2 e2 => ?_)
    have hz2 := e2 _ _ hz1
    refine ⟨_, hz2, ?_, fun b o hb => ?_, ?_⟩
    · rw [List.length_map, List.length_take]; omega
    · rw [upd_ne (ne_of_none hb hD)]; exact e2 _ _ (e _ _ hb)
    · rw [upd_same, List.take_succ, hx, List.map_append]; rfl
  · rw [List.take_of_length_le (Nat.le_refl _)] at hz1
    exact k D H1 hD e hz1
end
/-- no text: another value, or a fraction -/
inductive NoS (C : Addr) (H : Hp) : V → Prop
  | non : NoS C H .non
  | bl (b : Bool) : NoS C H (.bl b)
  | int (i : Int) : NoS C H (.int i)
  | tup {p : Addr} {xs : List V} : H p = some (.tup xs) → NoS C H (.ref p)
  | lst {p : Addr} {xs : List V} : H p = some (.lst xs) → NoS C H (.ref p)
  | dic {p : Addr} {kvs : List (Key × V)} : H p = some (.dK kvs) → NoS C H (.ref p)
  | rt {p : Addr} {o u : Int} : Rt C H p o u → NoS C H (.ref p)
theorem NoS.exN {C : Addr} {H H' : Hp} {v : V} (h : NoS C H v) (e : ExtN H H') : NoS C H' v := by
  cases h with
  | non => exact .non
  | bl b => exact .bl b
  | int b => exact .int b
  | tup h => exact .tup (e _ _ h fun _ z => nomatch z)
  | lst h => exact .lst (e _ _ h fun _ z => nomatch z)
  | dic h => exact .dic (e _ _ h fun _ z => nomatch z)
  | rt h => exact .rt (h.exN e)
end L3
namespace L3
open PySem PySem.Spec PyProof.Rows L2 LamX ClX
end L3
end
section
namespace L3
open PySem PySem.NumText PySem.Spec PyProof.Rows L2
theorem splC_facts (s : Nat) : ∀ (l acc : List Nat), s ∉ acc → TL.spl [s] 0 acc l ≠ [] ∧ TL.joinL [s] (TL.spl [s] 0 acc l) = acc ++ l ∧ ∀ p ∈ TL.spl [s] 0 acc l, s ∉ p
  | [], acc, h => by
    rw [TL.spl_nil]
    refine ⟨by simp, by simp [TL.joinL], fun p hp => ?_⟩
    rw [List.mem_singleton.mp hp]; exact h
  | c :: r, acc, h => by
    by_cases hc : c = s
    · subst hc
      rw [TL.spl_hit (by unfold TL.pre; simp)]
      obtain ⟨n1, n2, n3⟩ := splC_facts c r [] (by simp)
      refine ⟨by simp, ?_, fun p hp => ?_⟩
      · show TL.joinL [c] (acc :: TL.spl [c] 0 [] r) = _
        cases hs : TL.spl [c] 0 [] r with
        | nil => exact absurd hs n1
        | cons q qs =>
          rw [hs] at n2
          show acc ++ ([c] ++ TL.joinL [c] (q :: qs)) = _
          rw [n2]; simp
      · rcases List.mem_cons.mp hp with rfl | hp
        · exact h
        · exact n3 p hp
    · rw [TL.spl_miss (by unfold TL.pre; simp [hc])]
      obtain ⟨n1, n2, n3⟩ := splC_facts s r (acc ++ [c]) (by
        intro z
        rcases List.mem_append.mp z with z | z
        · exact h z
        · rw [List.mem_singleton] at z; exact hc z.symm)
      exact ⟨n1, by rw [n2]; simp, n3⟩
abbrev wds (z : Str) : List Str := Txt.split z " "
theorem wds_codes (z : Str) : (wds z).map TL.tl = TL.spl [32] 0 [] z.cps.toList := by
  have e : TL.tl (" " : Str) = [32] := by decide +kernel
  have := TL.split_spl z " " (by rw [e]; simp) (TL.kind_ok (by decide +kernel))
  rw [e] at this
  exact this
theorem wds_facts (z : Str) : wds z ≠ [] ∧ TL.joinL [32] ((wds z).map TL.tl) = z.cps.toList ∧ ∀ p ∈ wds z, 32 ∉ p.cps.toList ∧ p.length ≤ z.length ∧ ∀ c ∈ p.cps.toList, c ∈ z.cps.toList := by
  obtain ⟨a, b, c⟩ := splC_facts 32 z.cps.toList [] (by simp)
  rw [← wds_codes] at a b c
  rw [List.nil_append] at b
  refine ⟨fun q => a (by rw [q]; rfl), b, fun p hp => ?_⟩
  have hm : TL.tl p ∈ (wds z).map TL.tl := List.mem_map.mpr ⟨p, hp, rfl⟩
  obtain ⟨m1, m2⟩ := join_mem (S := [32]) hm
  rw [b] at m1 m2
  refine ⟨c _ hm, ?_, m1⟩
  rw [← len_codes, ← len_codes z]
  exact m2
theorem wds_of {z : Str} (ps : List (List Nat)) (hne : ps ≠ []) (h : z.cps.toList = TL.joinL [32] ps) (hp : ∀ p ∈ ps, 32 ∉ p) : (wds z).map TL.tl = ps := by
  rw [wds_codes, h]
  exact TL.spl_join hne hp
/-- joined, then cut -/
theorem wds_join {ps : List Str} (hne : ps ≠ []) (hp : ∀ p ∈ ps, 32 ∉ p.cps.toList) : wds (Txt.join " " ps) = ps := by
  refine TL.map_tl_inj (wds_of (ps.map TL.tl) (by simpa using hne) ?_ fun p h => ?_)
  · have e : TL.tl (" " : Str) = [32] := by decide +kernel
    show TL.tl (Txt.join " " ps) = _
    rw [TL.join_eq, TL.tl_join, e]
  · obtain ⟨q, hq, rfl⟩ := List.mem_map.mp h
    exact hp q hq
def numS (z : Str) : Option Int := if figB z = true ∧ 1 ≤ valOf z ∧ valOf z ≤ 10 ^ 30 then some (valOf z) else none
def ten30 : Str := "1000000000000000000000000000000"
def isz (z : Str) : Bool := !decide (z = "") && (z.cps.toList.all isDig && (!decide (z.cps.toList.head? = some 48) && (decide (z.length < 31) || decide (z = ten30))))
theorem val_lt : ∀ ds : List Nat, AllDigits ds → digitsVal ds < 10 ^ ds.length := fun ds h => digits_lt ds h
theorem isz_num (z : Str) : (isz z = true → figB z = true ∧ figsOf z = z ∧ 1 ≤ valOf z ∧ valOf z ≤ 10 ^ 30) ∧ (numS z ≠ none → isz z = true) := by
  have key : ∀ (h0 : z.cps.toList ≠ []) (hd : z.cps.toList.all isDig = true) (hh : z.cps.toList.head? ≠ some 48) (hl : z.length ≤ 4000), figB z = true ∧ figsOf z = z ∧ valOf z = ((digitsVal z.cps.toList : Nat) : Int) ∧ 0 < digitsVal z.cps.toList ∧ TL.numL (digitsVal z.cps.toList) = z.cps.toList := by
    intro h0 hd hh hl
    have h45 : z.cps.toList.head? ≠ some 45 := fun e => by
      obtain ⟨r, hr⟩ := head45 e
      have := List.all_eq_true.mp hd 45 (by rw [hr]; simp)
      rw [isDig_iff] at this
      omega
    have hf := figs_pos h45
    obtain ⟨c1, c2⟩ := canon _ _ rfl (digits_all hd) h0 hh
    refine ⟨?_, hf, by unfold valOf; rw [if_neg h45], c2, c1⟩
    unfold figB
    rw [hf, hd]
    have hp : 0 < z.cps.toList.length := by cases h : z.cps.toList with | nil => exact absurd h h0 | cons _ _ => simp
    rw [len_codes] at hp
    have e1 : decide (1 ≤ (z.length : Int)) = true := decide_eq_true (by omega)
    have e2 : decide ((z.length : Int) ≤ 4000) = true := decide_eq_true (by omega)
    have e3 : decide (z.cps.toList.head? = some 48) = false := decide_eq_false hh
    rw [e1, e2, e3]
    simp
  have e30 : ten30.cps.toList = TL.numL (10 ^ 30) := by decide +kernel
  refine ⟨fun h => ?_, fun h => ?_⟩
  · unfold isz at h
    simp only [Bool.and_eq_true, Bool.not_eq_true', decide_eq_false_iff_not, Bool.or_eq_true, decide_eq_true_eq] at h
    obtain ⟨h0, hd, hh, hl⟩ := h
    have hne : z.cps.toList ≠ [] := fun e => h0 (str_ext e)
    have hl' : z.length ≤ 4000 := by
      rcases hl with hl | rfl
      · omega
      · decide +kernel
    obtain ⟨a, b, c, d, _⟩ := key hne hd hh hl'
    refine ⟨a, b, by omega, ?_⟩
    rw [c]
    rcases hl with hl | rfl
    · have := val_lt _ (digits_all hd)
      rw [len_codes] at this
      have h2 : digitsVal z.cps.toList < 10 ^ 30 := Nat.lt_of_lt_of_le this (Nat.pow_le_pow_right (by decide) (by omega))
      have : ((digitsVal z.cps.toList : Nat) : Int) < ((10 ^ 30 : Nat) : Int) := Int.ofNat_lt.mpr h2
      have e : ((10 ^ 30 : Nat) : Int) = 10 ^ 30 := by decide +kernel
      rw [e] at this
      exact Int.le_of_lt this
    · rw [e30, TL.numL_val]; decide +kernel
  · unfold numS at h
    split at h
    · rename_i hc
      obtain ⟨hf, h1, h2⟩ := hc
      unfold figB at hf
      simp only [Bool.and_eq_true, Bool.or_eq_true, decide_eq_true_eq, Bool.not_eq_true', decide_eq_false_iff_not] at hf
      obtain ⟨⟨⟨l1, l2⟩, hd⟩, hz⟩ := hf
      have h45 : z.cps.toList.head? ≠ some 45 := fun e => by
        unfold valOf at h1
        rw [if_pos e] at h1
        omega
      rw [figs_pos h45] at l1 l2 hd hz
      have hne : z.cps.toList ≠ [] := fun e => by
        have := len_codes z
        rw [e] at this
        simp at this
        omega
      have hh : z.cps.toList.head? ≠ some 48 := by
        rcases hz with hz | hz
        · exfalso
          rw [hz] at h1
          exact absurd h1 (by decide +kernel)
        · exact hz
      obtain ⟨a, b, c, d, e⟩ := key hne hd hh (by omega)
      unfold isz
      simp only [Bool.and_eq_true, Bool.not_eq_true', decide_eq_false_iff_not, Bool.or_eq_true, decide_eq_true_eq]
      refine ⟨fun q => hne (by rw [q]; rfl), hd, hh, ?_⟩
      rw [c] at h2
      have h2' : digitsVal z.cps.toList ≤ 10 ^ 30 := by
        have e : ((10 ^ 30 : Nat) : Int) = 10 ^ 30 := by decide +kernel
        rw [← e] at h2
        exact Int.ofNat_le.mp h2
      rcases Nat.lt_or_eq_of_le h2' with hlt | heq
      · left
        have := TL.numL_len (n := digitsVal z.cps.toList) (k := 30) (by decide) hlt
        rw [e, len_codes] at this
        omega
      · right
        rw [heq] at e
        exact str_ext (by rw [e30, e])
    · exact absurd rfl h
theorem numS_isz (z : Str) : numS z = if isz z = true then some (valOf z) else none := by
  obtain ⟨a, b⟩ := isz_num z
  by_cases h : isz z = true
  · rw [if_pos h]
    obtain ⟨h1, _, h2, h3⟩ := a h
    unfold numS
    rw [if_pos ⟨h1, h2, h3⟩]
  · rw [if_neg h]
    cases e : numS z with
    | none => rfl
    | some n => exact absurd (b (by rw [e]; exact fun z => nomatch z)) h
/-- what str writes of a size is read as just this size -/
theorem numS_str {n : Int} (h : siz n) : numS (strOf n) = some n ∧ 32 ∉ (strOf n).cps.toList ∧ (strOf n).length ≤ 31 ∧ strOf n ≠ "-" := by
  obtain ⟨h1, h2⟩ := h
  obtain ⟨m, rfl⟩ : ∃ m : Nat, n = (m : Int) := ⟨n.toNat, by omega⟩
  have hm : m ≤ 10 ^ 30 := by
    have e : ((10 ^ 30 : Nat) : Int) = 10 ^ 30 := by decide +kernel
    rw [← e] at h2
    exact Int.ofNat_le.mp h2
  have hd := TL.numL_digits m
  have hc : (strOf (m : Int)).cps.toList = TL.numL m := strOf_nat m
  have hl := TL.numL_len (n := m) (k := 31) (by decide) (Nat.lt_of_le_of_lt hm (by decide +kernel))
  have hh : (TL.numL m).head? ≠ some 48 := by
    rcases numL_head m with ⟨_, h⟩ | ⟨h, _⟩
    · omega
    · exact h
  have hne : TL.numL m ≠ [] := fun e => by
    have := TL.numL_val m
    rw [e] at this
    have : (0 : Nat) = m := this
    omega
  have hdig : (strOf (m : Int)).cps.toList.all isDig = true := by
    rw [hc]
    exact List.all_eq_true.mpr fun c hc => (isDig_iff c).mpr (hd c hc)
  have hlen : (strOf (m : Int)).length = (TL.numL m).length := by rw [← len_codes, hc]
  have h45 : (strOf (m : Int)).cps.toList.head? ≠ some 45 := by
    rw [hc]
    intro e
    obtain ⟨r, hr⟩ := head45 e
    have := hd 45 (by rw [hr]; simp)
    omega
  refine ⟨?_, fun hs => ?_, by rw [hlen]; exact hl, fun e => ?_⟩
  · have hv : valOf (strOf (m : Int)) = (m : Int) := by
      unfold valOf
      rw [if_neg h45, hc, TL.numL_val]
    rw [numS_isz, hv, if_pos]
    unfold isz
    simp only [Bool.and_eq_true, Bool.not_eq_true', decide_eq_false_iff_not, Bool.or_eq_true, decide_eq_true_eq]
    refine ⟨fun q => hne (by rw [← hc, q]; rfl), hdig, by rw [hc]; exact hh, ?_⟩
    rcases Nat.lt_or_eq_of_le hm with hlt | rfl
    · left
      rw [hlen]
      have := TL.numL_len (n := m) (k := 30) (by decide) hlt
      omega
    · right
      exact str_ext (by rw [hc]; decide +kernel)
  · rw [hc] at hs
    have := hd 32 hs
    omega
  · rw [e] at h45
    exact h45 (by decide +kernel)
end L3
end
section
namespace L3
open PySem PySem.NumText PySem.Spec PyProof.Rows L2 LamX RZ
section
variable {K : PySem.W.Frag} {σ : L2.St} {H : Hp} {Q : VK} {g : TG} {tb : TS} {D : Ends} {ta to te : TE} {t : TA}
/-- a walk over anything -/
def ForJ (J : It) (g : TG) (tb : TS) (D : Ends) (σ : L2.St) (H : Hp) : Prop := ∃ W : Nat → Nat → L2.St → Hp → Prop, (∃ m, W 0 m σ H) ∧ ∀ (i m : Nat) (σ : L2.St) (H : Hp), W i m σ H → J.stop i H ∧ D.nx σ H ∨ J.go i H ∧
  ∃ N, (∀ (σ' : L2.St) (H' : Hp), N σ' H' → ∃ m', m' < m ∧ W (i + 1) m' σ' H') ∧ ∀ (x : V) (H' : Hp), J.yld i H x H' → g x σ H' fun σ2 H2 => tb { nx := N, rt := D.rt, bk := D.nx, ct := N } σ2 H2
theorem s_forE (h : t σ H fun ws H1 => ∃ a xs, ws = [.ref a] ∧ SqL K H1 a xs ∧ ForJ (Ite K a) g tb D σ H1) : tFor (iEnum K t) g tb D σ H := h
theorem s_forZ (h : t σ H fun ws H1 => ∃ a b xs ys, ws = [.ref a, .ref b] ∧ ((SqL K H1 a xs ∧ SqL K H1 b ys ∧ ForJ (Itz K a b) g tb D σ H1) ∨ (SqT K H1 a xs ∧ SqT K H1 b ys ∧ ForJ (ItzT K a b) g tb D σ H1))) : tFor (iZipA K t) g tb D σ H := h
/-- for i, x in enumerate(xs) -/
theorem forEn {a : Addr} {xs : List V} (Pv : Nat → L2.St → Hp → Prop) (h0 : Pv 0 σ H) (hs : ∀ i σ H, Pv i σ H → H a = some (.lst xs))
    (hb : ∀ (i : Nat) x T σ H, xs[i]? = some x → Pv i σ H → H T = none → ∀ H1, Ex H H1 → (∀ b, b ≠ T → H1 b = H b) → H1 T = some (.tup [.int (i : Int), x]) → g (.ref T) σ H1 fun σ2 H2 => tb { nx := Pv (i + 1), rt := D.rt, bk := D.nx, ct := Pv (i + 1) } σ2 H2)
    (he : ∀ σ H, Pv xs.length σ H → D.nx σ H) : ForJ (Ite K a) g tb D σ H :=
  for_it walk_enum Pv h0 (fun i σ H _ h => .inl (.inl (hs i σ H h))) (fun i x σ H1 H2 hi hp hy => by
    obtain ⟨T, x', y', rfl, hT, rfl, hx, hy⟩ := hy
    cases hx
    exact hb i y' T σ H1 hy hp hT _ (ex_new hT) (fun b hb => upd_ne hb) upd_same) he
theorem s_orT (h : ta σ H fun x H1 => ∃ k, TruV K x H1 k ∧ if k = true then Q x H1 else te σ H1 Q) : tOrT K ta te σ H Q := h
end
section
variable {K : PySem.W.Frag} {σ : L2.St} {H : Hp} {Q : VK}
theorem s_lcTp {te ta : TE} {g : TG} {tt : TT} {vs : List Nat} (h : ta σ H fun x H1 => ∃ a, x = .ref a ∧ (∃ xs, SqT K H1 a xs) ∧ LC (Itt K a) g tt te vs σ H1 Q) : tLc (iTup K ta) g tt te vs σ H Q := h
end
end L3
end
section
namespace L3
open PySem PySem.NumText PySem.Spec PyProof.Rows L2 LamX RZ
section
variable {σ : L2.St} {H : Hp} {g : TG} {tb : TS} {D : Ends}
theorem s_forR1 {tr : TA} (h : tr σ H fun ws H1 => ∃ j : Int, ws = [.int j] ∧ -(2 ^ 62) ≤ j ∧ j < 2 ^ 62 ∧ ForJ (Itr 0 j.toNat) g tb D σ H1) : tFor (iRng1 tr) g tb D σ H := h
theorem forRg {lo : Int} {n : Nat} (Pv : Nat → L2.St → Hp → Prop) (h0 : Pv 0 σ H)
    (hb : ∀ (i : Nat) σ H, i < n → Pv i σ H → g (.int (lo + (i : Int))) σ H fun σ2 H2 => tb { nx := Pv (i + 1), rt := D.rt, bk := D.nx, ct := Pv (i + 1) } σ2 H2)
    (he : ∀ σ H, Pv n σ H → D.nx σ H) : ForJ (Itr lo n) g tb D σ H :=
  for_it walk_range Pv h0 (fun i σ H _ h => trivial) (fun i x σ H1 H2 hi hp hy => by
    obtain ⟨rfl, rfl⟩ := hy
    exact hb i σ _ hi hp) he
end
theorem joinL_len (S : List Nat) : ∀ ps : List (List Nat), (TL.joinL S ps).length ≤ (ps.map (·.length)).sum + ps.length * S.length
  | [] => by simp [TL.joinL]
  | [p] => by simp [TL.joinL]
  | p :: q :: r => by
    have ih := joinL_len S (q :: r)
    show (p ++ (S ++ TL.joinL S (q :: r))).length ≤ _
    simp only [List.length_append, List.map_cons, List.sum_cons, List.length_cons] at ih ⊢
    simp only [Nat.add_mul, Nat.one_mul] at ih ⊢
    omega
theorem join_len (a : Str) (ys : List Str) : (Txt.join a ys).length ≤ (ys.map (·.length)).sum + ys.length * a.length := by
  have h := joinL_len (TL.tl a) (ys.map TL.tl)
  have e : TL.tl (Txt.join a ys) = TL.joinL (TL.tl a) (ys.map TL.tl) := by rw [TL.join_eq, TL.tl_join]
  rw [← e, List.map_map, List.length_map] at h
  have e2 : (ys.map ((·.length) ∘ TL.tl)) = ys.map (·.length) := List.map_congr_left fun x _ => (TL.len_tl x).symm
  rw [e2, ← TL.len_tl, ← TL.len_tl] at h
  exact h
theorem sum_le {m : Nat} : ∀ {ys : List Str}, (∀ y ∈ ys, y.length ≤ m) → (ys.map (·.length)).sum ≤ m * ys.length
  | [], _ => by simp
  | y :: r, h => by
    have := sum_le fun y hy => h y (List.mem_cons_of_mem _ hy)
    have := h y List.mem_cons_self
    simp only [List.map_cons, List.sum_cons, List.length_cons, Nat.mul_add, Nat.mul_one]
    omega
theorem joinL_mem (S : List Nat) (c : Nat) : ∀ ps : List (List Nat), c ∈ TL.joinL S ps → c ∈ S ∨ ∃ p ∈ ps, c ∈ p
  | [], h => nomatch h
  | [p], h => .inr ⟨p, List.mem_singleton_self p, h⟩
  | p :: q :: r, h => by
    have h : c ∈ p ++ (S ++ TL.joinL S (q :: r)) := h
    rcases List.mem_append.mp h with h | h
    · exact .inr ⟨p, List.mem_cons_self, h⟩
    · rcases List.mem_append.mp h with h | h
      · exact .inl h
      · exact (joinL_mem S c (q :: r) h).imp id fun ⟨x, hx, hc⟩ => ⟨x, List.mem_cons_of_mem _ hx, hc⟩
theorem join_codes {a : Str} {ys : List Str} {c : Nat} (h : c ∈ (Txt.join a ys).cps.toList) : c ∈ a.cps.toList ∨ ∃ y ∈ ys, c ∈ y.cps.toList := by
  have e : TL.tl (Txt.join a ys) = TL.joinL (TL.tl a) (ys.map TL.tl) := by rw [TL.join_eq, TL.tl_join]
  have h : c ∈ TL.tl (Txt.join a ys) := h
  rw [e] at h
  refine (joinL_mem _ c _ h).imp id fun ⟨p, hp, hc⟩ => ?_
  obtain ⟨y, hy, rfl⟩ := List.mem_map.mp hp
  exact ⟨y, hy, hc⟩
/-- a plain text of at most m signs -/
def Pt (m : Nat) (z : Str) : Prop := z.length ≤ m ∧ ∀ c ∈ z.cps.toList, c < 1114112
def ptB (m : Nat) (z : Str) : Bool := decide (z.length ≤ m) && z.cps.toList.all fun c => decide (c < 1114112)
theorem pt_of {m : Nat} {z : Str} (h : ptB m z = true) : Pt m z := by
  unfold ptB at h
  simp only [Bool.and_eq_true, decide_eq_true_eq, List.all_eq_true] at h
  exact h
theorem pt_join {m n : Nat} {ys : List Str} (h : ∀ y ∈ ys, Pt m y) (hn : ys.length ≤ n) : Pt (m * n + n) (Txt.join " " ys) := by
  refine ⟨?_, fun c hc => ?_⟩
  · have h1 := join_len " " ys
    have h2 := sum_le fun y hy => (h y hy).1
    have h3 : m * ys.length ≤ m * n := Nat.mul_le_mul_left _ hn
    have e : (" " : Str).length = 1 := by decide +kernel
    rw [e] at h1
    omega
  · rcases join_codes hc with hc | ⟨y, hy, hc⟩
    · have e : (" " : Str).cps.toList = [32] := by decide +kernel
      rw [e, List.mem_singleton] at hc
      omega
    · exact (h y hy).2 c hc
theorem strOkO (s : String) : PyData.strOk (Str.ofString s) = true := by
  unfold PyData.strOk
  have e := ofString_codes s
  rw [← Array.all_toList, e, List.all_map]
  refine List.all_eq_true.mpr fun c _ => ?_
  show decide (c.toNat < 0x110000) = true
  refine decide_eq_true ?_
  rcases c.valid with h | ⟨_, h⟩
  · exact Nat.lt_trans h (by decide)
  · exact h
theorem strOkI (i : Int) : PyData.strOk (PyData.int i).shown = true := by
  show PyData.strOk (Str.ofString (toString i)) = true
  exact strOkO _
section
variable {K : PySem.W.Frag} {H : Hp} {Q : VK}
theorem log_le {n k : Nat} (h : n ≤ k) (hk : k < 2 ^ 1920) : n.log2 < 1920 := by
  rcases Nat.eq_zero_or_pos n with rfl | hp
  · decide
  · exact (Nat.log2_lt (by omega)).mpr (Nat.lt_of_le_of_lt h hk)
end
section
variable {K : PySem.W.Frag} {σ : L2.St} {H H' : Hp} {Q : VK} {C : Addr}
theorem s_stC {sp : Sp} {E : XK} {t : TA} (h : t σ H fun vs H2 => sp vs H2 Q E) : tSt C sp E (tC (.ref C)) t σ H Q := ⟨rfl, h⟩
theorem s_cmC {sp : Sp} {E : XK} {t : TA} (h : t σ H fun vs H2 => sp (.ref C :: vs) H2 Q E) : ClX.tCMeth C sp E (tC (.ref C)) t σ H Q := ⟨rfl, h⟩
theorem Ck.keep {q a : Addr} {n : Nat} {ns : List Int} (h : Ck C H q ns) (p : Pen H a n) (k : ∀ b o, b ≠ a → H b = some o → H' b = some o) : Ck C H' q ns := by
  obtain ⟨dx, t1, t2, t3, a1, b, c, d⟩ := h
  have nn : ∀ {q : Addr} {o : HO}, H q = some o → (∀ c n, o ≠ PenO a c n) → H' q = some o := fun {q o} e z => k _ _ (p.ne e z) e
  exact ⟨dx, t1, t2, t3, nn a1 (fun c n z => by unfold PenO at z; cases z), nn b (fun c n z => by unfold PenO at z; cases z), nn c (fun c n z => by unfold PenO at z; cases z), nn d (fun c n z => by unfold PenO at z; cases z)⟩
theorem tup_keep {q a : Addr} {n : Nat} {xs : List V} (h : H q = some (.tup xs)) (p : Pen H a n) (k : ∀ b o, b ≠ a → H b = some o → H' b = some o) : H' q = some (.tup xs) := k _ _ (p.ne h (fun c n z => by unfold PenO at z; cases z)) h
theorem dk_keep {q a : Addr} {n : Nat} {xs : List (Key × V)} (h : H q = some (.dK xs)) (p : Pen H a n) (k : ∀ b o, b ≠ a → H b = some o → H' b = some o) : H' q = some (.dK xs) := k _ _ (p.ne h (fun c n z => by unfold PenO at z; cases z)) h
theorem pt_str {n : Int} (h : siz n) : Pt 31 (strOf n) := by
  refine ⟨(numS_str h).2.2.1, fun c hc => ?_⟩
  have := strOkO (toString n)
  unfold PyData.strOk at this
  rw [← Array.all_toList, List.all_eq_true] at this
  exact of_decide_eq_true (this c hc)
end
theorem _root_.L2.SqL.exL {K : PySem.W.Frag} {H H' : Hp} {a : Addr} {xs : List V} (h : SqL K H a xs) (e : Ex H H') : SqL K H' a xs := by
  rcases h with (h | ⟨o, h⟩) | h
  · exact .inl (.inl (e _ _ h))
  · exact .inl (.inr ⟨o, e _ _ h⟩)
  · exact .inr h
theorem _root_.L2.SqT.exT {K : PySem.W.Frag} {H H' : Hp} {a : Addr} {xs : List V} (h : SqT K H a xs) (e : Ex H H') : SqT K H' a xs := by
  rcases h with (h | ⟨o, h⟩) | h
  · exact .inl (.inl (e _ _ h))
  · exact .inl (.inr ⟨o, e _ _ h⟩)
  · exact .inr h
theorem _root_.L2.Dp.ex' {K : PySem.W.Frag} {H H' : Hp} {v : V} {d : PyData} (h : Dp K H v d) (e : Ex H H') : Dp K H' v d := L3.Dp.exN e.n d v (fun a xs h => h.exL e) (fun a xs h => h.exT e) h
theorem KX.join {X : Cx} {K : PySem.W.Frag} {o e : Expr} {to te : TE} {apos pos : Pos} (hK : X.K = K) (ho : PE X o to) (he : PE X e te) (hs : starEach [e] X.env = [(false, eval e X.env)] := by rfl) (hbase : attributeBase o "join" X.env (eval o X.env) = eval o X.env := by rfl) (hline : (apos.endLine == pos.line) = true := by rfl) :
    PE X (.Call (.Attribute o "join" apos) [e] [] pos) (tM1 (fun x xs H Q => ∃ a p, ∃ ys : List Str, x = .str a ∧ xs = [.ref p] ∧ (SqL K H p (ys.map V.str) ∨ SqT K H p (ys.map V.str)) ∧
      (ys.map (·.length)).sum + ys.length * a.length ≤ 16777216 ∧ Q (.str (Txt.join a ys)) H) to te) := by
  subst hK
  exact pe_join ho he hs hbase hline
end L3
end
section
namespace L3
open PySem PySem.NumText PySem.Spec PyProof.Rows L2 LamX RZ
structure Mt (P : Program) (w : World) (K : PySem.W.Frag) (mg : Str → Option Value) (base : Heap) (CX : CXT) (k : Nat) (C : Addr) (m c : Str) (ps : List Str) (sp : Sp) : Prop where
  ex : ∃ (f : Addr) (fd : FuncData), Cls K C ∧ Meth K C m f ∧ FnOk P w K mg base CX k f fd (c :: ps) sp ∧ L2.Binds K fd (c :: ps) [] ∧
    ∀ (s : Shared) (a : Value) (ws : List Value), K.In s.heap → ws.length = ps.length → BindsTo s fd ⟨[a], ps.zip ws⟩ ((c :: ps).zip (a :: ws))
section
variable {X : Cx} {CX : CXT} {k j : Nat} {C : Addr} {sp : Sp} {E : XK} {o e : Expr} {es : List Expr} {m cn : Str} {ps : List Str} {pos apos : Pos} {ta : TE} {t : TA} {pl : Sem Bool}
theorem pe_mt (c : Mt X.prog X.w X.K X.mg X.base CX k C m cn ps sp) (hr : Room j X.A) (hx : Passes CX X E) (he : PE X o ta) (ha : PA X (e :: es) t) (hk : k ≤ j := by decide)
    (hst : starEach (e :: es) X.env = (false, eval e X.env) :: starEach es X.env := by rfl) (hpl : (backTo pos (starEach es X.env)).any (·.1) = false := by rfl)
    (ht : eval (.Call (.Attribute o m apos) (e :: es) [] pos) X.env = (do
      let ov ← eval o X.env
      standAt apos.atName
      let (f, first) ← holding [ov] (getMethod ov m pl)
      callWith pos f first (backTo pos (starEach (e :: es) X.env)) (backToKw pos (keywordEach [] X.env))) := by rfl) :
    PE X (.Call (.Attribute o m apos) (e :: es) [] pos) (tMeth C m sp [] E ta t) := by
  obtain ⟨f, fd, cl, cm, F, b, _⟩ := c.ex
  exact pe_meth he cl cm F (hr.mono hk) b .nil hx ha hst hpl ht
end
theorem s_mt {C : Addr} {m : Str} {sp : Sp} {dvs : List V} {E : XK} {ta : TE} {t : TA} {σ : L2.St} {H : Hp} {Q : VK} (h : ta σ H fun x H1 => ∃ a dx fs, x = .ref a ∧ H1 a = some (.ins C dx fs) ∧ fs.lookup m = none ∧ t σ H1 fun vs H2 => sp (x :: (vs ++ dvs)) H2 Q E) : tMeth C m sp dvs E ta t σ H Q := h
end L3
end
section
namespace L2
open PySem PySem.Spec PyProof.Rows HT
end L2
namespace HT
open PySem PySem.Spec PyProof.Rows L2
end HT
namespace L3
open PySem PySem.NumText PySem.Spec PyProof.Rows L2 LamX RZ
section
variable {X : Cx}
def tRevT (K : PySem.W.Frag) (te : TE) : TE := fun σ H Q => te σ H fun x H1 => ∃ a xs, x = .ref a ∧ SqT K H1 a xs ∧ ∀ p, H1 p = none → Q (.ref p) (upd H1 p (.tup xs.reverse))
theorem KX.revL {K : PySem.W.Frag} {e : Expr} {te : TE} {k : Nat} {p1 p2 p3 pos : Pos} (hK : X.K = K) (he : PE X e te) : PE X (.Subscript e (.Slice none none (some (.UnaryOp .USub (.Constant (.int 1) k p1) p2)) p3) pos) (L2.tRevL K te) := by subst hK; exact L2.pe_revL he
end
section
variable {K : PySem.W.Frag} {te : TE} {σ : L2.St} {H : Hp} {Q : VK}
theorem s_revT (h : te σ H fun x H1 => ∃ a xs, x = .ref a ∧ SqT K H1 a xs ∧ ∀ p, H1 p = none → Q (.ref p) (upd H1 p (.tup xs.reverse))) : tRevT K te σ H Q := h
theorem s_revL (h : te σ H fun x H1 => ∃ a xs, x = .ref a ∧ SqL K H1 a xs ∧ ∀ p, H1 p = none → Q (.ref p) (upd H1 p (.lst xs.reverse))) : L2.tRevL K te σ H Q := h
end
end L3
end
section
namespace L3
open PySem PySem.NumText PySem.Spec PyProof.Rows L2 LamX RZ
def CkTo (C CM : Addr) (H : Hp) (ns : List Int) (Q : VK) (E : XK) : Prop := (ns.length ≤ 5000 ∧ ∀ r H', Ex H H' → Ck C H' r ns → Q (.ref r) H') ∨ (5000 < ns.length ∧ Rz2 CM "what" "most" (.str "chunks") (.int 5000) H E)
theorem CkTo.g {K : PySem.W.Frag} {C CB CM : Addr} {H : Hp} {ns : List Int} {Q : VK} {E : XK} (h : CkTo C CM H ns Q E) (hl : ns.length ≤ 100000) (hs : ∀ n ∈ ns, siz n) : CkG K CB CM H (ns.map V.int) (fun ns => ∀ q H', H q = none → Ex H H' → Ck C H' q ns → Q (.ref q) H') E :=
  ⟨by rw [List.length_map]; exact hl, .inl ⟨ns, rfl, hs, h.imp (fun ⟨a, b⟩ => ⟨a, fun q H' _ e c => b q H' e c⟩) id⟩⟩
end L3
end
section
namespace L3
open PySem PySem.NumText PySem.Spec PyProof.Rows L2 LamX RZ
end L3
end
section
namespace L3
open PySem PySem.NumText PySem.Spec PyProof.Rows L2 LamX RZ
end L3
end
section
namespace L3
open PySem PySem.NumText PySem.Spec PyProof.Rows L2 LamX RZ
theorem atI_nat {α : Type} {xs : List α} {j : Nat} {v : α} (h : xs[j]? = some v) : atI xs (j : Int) = some v := by
  rw [atI_int (by omega) (by have := (List.getElem?_eq_some_iff.mp h).1; omega), Int.toNat_natCast]
  exact h
end L3
end
section
namespace L3
open PySem PySem.NumText PySem.Spec PyProof.Rows L2 LamX RZ
def Hds (H : Hp) : List Addr → List (List V) → Prop
  | [], [] => True
  | q :: qs, t :: ts => H q = some (.tup t) ∧ Hds H qs ts
  | _, _ => False
theorem Hds.imp {H H' : Hp} : ∀ {qs : List Addr} {ts : List (List V)}, Hds H qs ts → (∀ q t, H q = some (.tup t) → H' q = some (.tup t)) → Hds H' qs ts
  | [], [], _, _ => trivial
  | _ :: _, _ :: _, ⟨a, b⟩, k => ⟨k _ _ a, Hds.imp b k⟩
  | [], _ :: _, h, _ => h.elim
  | _ :: _, [], h, _ => h.elim
theorem Hds.app {H : Hp} {q : Addr} {t : List V} (hq : H q = some (.tup t)) : ∀ {qs : List Addr} {ts : List (List V)}, Hds H qs ts → Hds H (qs ++ [q]) (ts ++ [t])
  | [], [], _ => ⟨hq, trivial⟩
  | _ :: _, _ :: _, ⟨a, b⟩ => ⟨a, Hds.app hq b⟩
  | [], _ :: _, h => h.elim
  | _ :: _, [], h => h.elim
theorem Hds.len {H : Hp} : ∀ {qs : List Addr} {ts : List (List V)}, Hds H qs ts → qs.length = ts.length
  | [], [], _ => rfl
  | _ :: _, _ :: _, ⟨_, b⟩ => by rw [List.length_cons, List.length_cons, Hds.len b]
  | [], _ :: _, h => h.elim
  | _ :: _, [], h => h.elim
theorem Hds.dp {K : PySem.W.Frag} {H : Hp} {f : List V → List PyData} : ∀ {qs : List Addr} {ts : List (List V)}, Hds H qs ts → (∀ t ∈ ts, DpAll K H t (f t)) → DpAll K H (qs.map V.ref) (ts.map fun t => .tuple (f t))
  | [], [], _, _ => .nil
  | _ :: _, t :: _, ⟨a, b⟩, h => .cons (.tup (.inl (.inl a)) (h t List.mem_cons_self)) (Hds.dp b fun u hu => h u (List.mem_cons_of_mem _ hu))
  | [], _ :: _, h, _ => h.elim
  | _ :: _, [], h, _ => h.elim
def HdAt (H : Hp) (hl : Addr) (ts : List (List V)) : Prop := ∃ qs : List Addr, H hl = some (.lst (qs.map V.ref)) ∧ Hds H qs ts
theorem HdAt.ex {H H' : Hp} {hl : Addr} {ts : List (List V)} (h : HdAt H hl ts) (e : Ex H H') : HdAt H' hl ts := by
  obtain ⟨qs, a, b⟩ := h
  exact ⟨qs, e _ _ a, b.imp fun q t h => e _ _ h⟩
theorem HdAt.exN {H H' : Hp} {hl : Addr} {ts : List (List V)} (h : HdAt H hl ts) (e : ExtN H H') : HdAt H' hl ts := by
  obtain ⟨qs, a, b⟩ := h
  exact ⟨qs, e _ _ a (fun _ z => nomatch z), b.imp fun q t h => e _ _ h (fun _ z => nomatch z)⟩
theorem HdAt.one {H : Hp} {hl q : Addr} {t : List V} (a : H hl = some (.lst [.ref q])) (b : H q = some (.tup t)) : HdAt H hl [t] := ⟨[q], a, b, trivial⟩
theorem HdAt.dp {K : PySem.W.Frag} {H : Hp} {hl : Addr} {ts : List (List V)} {f : List V → List PyData} (h : HdAt H hl ts) (k : ∀ t ∈ ts, DpAll K H t (f t)) : Dp K H (.ref hl) (.list (ts.map fun t => .tuple (f t))) := by
  obtain ⟨qs, a, b⟩ := h
  exact .lst (.inl (.inl a)) (b.dp k)
end L3
end
section
namespace L3
open PySem PySem.NumText PySem.Spec PyProof.Rows L2 LamX RZ ClX
def tStR (C : Addr) (sp : Sp) (E : XK) (ta : TE) (t : TA) : TE := fun σ H Q => ta σ H fun x H1 => x = .ref C ∧ t σ H1 fun vs H2 => sp vs.reverse H2 Q E
section
variable {K : PySem.W.Frag} {σ : L2.St} {H : Hp} {Q : VK} {C CB CC CM CT CN : Addr}
theorem s_stR {sp : Sp} {E : XK} {t : TA} (h : t σ H fun vs H2 => sp vs.reverse H2 Q E) : tStR C sp E (tC (.ref C)) t σ H Q := ⟨rfl, h⟩
/-- a quotient by what is above 0 -/
theorem s_divP {i j : Int} (h0 : 0 < j) (h1 : j ≤ 10 ^ 40) (h : Q (.int (i / j)) H) : rI CDivW (fun i j => V.int (i / j)) (.int i) (.int j) H Q :=
  ⟨i, j, rfl, rfl, wide_div (b := 200) h0 (Nat.lt_of_le_of_lt (show j.natAbs ≤ 10 ^ 40 by omega) (by decide +kernel)) (by decide) (by decide), h⟩
/-- a value that is refused, heard with its text -/
structure ShV (H : Hp) (K : PySem.W.Frag) (v : V) (x : PyData) : Prop where
  dp : Dp K H v x
  sh : x.showable = true
  dep : x.depth ≤ 60
  len : x.shown.length ≤ sizeLine
  ok : PyData.strOk x.shown = true
theorem sqL_exN {H H' : Hp} {a : Addr} {xs : List V} (h : SqL K H a xs) (e : ExtN H H') : SqL K H' a xs := by
  rcases h with (h | ⟨o, h⟩) | h
  · exact .inl (.inl (e _ _ h fun _ z => nomatch z))
  · exact .inl (.inr ⟨o, e _ _ h fun _ z => nomatch z⟩)
  · exact .inr h
theorem sqT_exN {H H' : Hp} {a : Addr} {xs : List V} (h : SqT K H a xs) (e : ExtN H H') : SqT K H' a xs := by
  rcases h with (h | ⟨o, h⟩) | h
  · exact .inl (.inl (e _ _ h fun _ z => nomatch z))
  · exact .inl (.inr ⟨o, e _ _ h fun _ z => nomatch z⟩)
  · exact .inr h
theorem ShV.up {H H' : Hp} {v : V} {x : PyData} (h : ShV H K v x) (e : ExtN H H') : Dp K H' v x := Dp.exN e x v (fun _ _ z => sqL_exN z e) (fun _ _ z => sqT_exN z e) h.dp
theorem ShV.exN {H H' : Hp} {v : V} {x : PyData} (h : ShV H K v x) (e : ExtN H H') : ShV H' K v x := ⟨h.up e, h.sh, h.dep, h.len, h.ok⟩
theorem ShV.int {H : Hp} {i : Int} (h : i.natAbs ≤ 10 ^ 40) : ShV H K (.int i) (.int i) :=
  have h2 : i.natAbs.log2 < 1920 := log_le h (by decide +kernel)
  ⟨.int i, decide_eq_true h2, Nat.zero_le _, Nat.le_trans (fit_shown (x := .int i) (decide_eq_true h2)) (by decide +kernel), strOkI i⟩
end
end L3
end
section
namespace L3
open PySem PySem.Spec PyProof.Rows L2 LamX ItX
def ItT (t it : Addr) : HO := .ext fun h => h.IsTupleIter it t 0
def iOwn (K : PySem.W.Frag) (C : Addr) (sp : Nat → Sp) (E : XK) (te : TE) : TI := fun σ H R => te σ H fun x H1 => ∃ a dx fs, x = .ref a ∧ H1 a = some (.ins C dx fs) ∧
  ∀ n, sp n [.ref a] H1 (fun v H2 => ∃ it t, v = .ref it ∧ H2 it = some (ItT t it) ∧ n ≤ it ∧ R (Itt K t) (dropH H2 it)) E
section
variable {X : Cx} {K : PySem.W.Frag} {C : Addr} {k j : Nat} {E : XK}
def rInOwn (C : Addr) (sp : Sp) (E : XK) (ng : Bool) : R2 := fun x y H Q => ∃ a dx fs, y = .ref a ∧ H a = some (.ins C dx fs) ∧ sp [y, x] H (fun z H' => ∃ c, z = .bl c ∧ Q (.bl (c ^^ ng)) H') E
def rIxOwn (C : Addr) (sp : Sp) (E : XK) : R2 := fun x y H Q => ∃ a dx fs, x = .ref a ∧ H a = some (.ins C dx fs) ∧ sp [x, y] H Q E
structure GetM (P : Program) (w : World) (K : PySem.W.Frag) (mg : Str → Option Value) (base : Heap) (C : Addr) (k : Nat) (ps : List Str) (sp : Sp) : Prop where
  ex : ∃ (f : Addr) (fd : FuncData), PySem.W.findIn K (.ref C) "__getitem__" = some (some (.ref f)) ∧ PySem.W.isFn K (.ref f) = true ∧ PySem.W.fnIn K f = true ∧ PySem.W.noSeq K C = true ∧ ps.length = 2 ∧ FnOk P w K mg base (L2.CX P w) k f fd ps sp ∧ L2.Binds K fd ps []
theorem pe_ixOwn {sp : Sp} {ps : List Str} {o b : Expr} {ta tb : TE} {pos : Pos} (B : GetM X.prog X.w X.K X.mg X.base C k ps sp) (hr : Room (j + 1) X.A) (hx : Passes (L2.CX X.prog X.w) X E) (ha : PE X o ta) (hb : PE X b tb) (hk : k ≤ j := by decide)
    (hs : ∀ o i, subscripted b true o i = runValue (.builtin "lifetime.subscript" ⟨[o, i], []⟩) := by intros; rfl) : PE X (.Subscript o b pos) (tOp (rIxOwn C sp E) ta tb) := by
  obtain ⟨f, fd, h1, h2, h3, _, hl, G, bb⟩ := B.ex
  refine ⟨fun pins s σ H Q I h => ?_⟩
  refine Subscript_ (binT ha hb I h fun v u s2 x y H2 I2 rx ry q => ?_)
  obtain ⟨a, dx, fs, rfl, ea, q⟩ := q
  obtain rfl : v = Value.ref a := rx
  obtain ⟨od, J⟩ := ins_inst I2.hok ea
  obtain ⟨m, Fr⟩ := I2.fr
  refine PySem.W.sub_K Fr I2.mod.kin J h1 h3 h2 ?_ (hs _ _)
  refine wpAny_call (codeAny_mono (G.run X.A.in1 X.stack s2 H2 ⟨[.ref a, u], []⟩ [.ref a, u] [.ref a, y] Q E (hr.in1.mono hk) I2.env0.in1 (by have := bb s2 [.ref a, u] I2.kIn hl.symm; rw [List.append_nil] at this; exact this) (.cons (show RelV (.ref a) (.ref a) from rfl) (.cons ry .nil)) q) fun r s' z => ?_)
  match r, z with
  | .error e, z => exact hx pins σ H2 s2 e s' I2 z
  | .ok (.ret u), z => exact I2.after z
end
def SlO (sl : Addr) (lo hi st : Option Int) : HO := .ext fun h => ∃ vl vu vs, h.IsSliceOf sl vl vu vs ∧ IsPart vl lo ∧ IsPart vu hi ∧ IsPart vs st
def cut3 {α : Type} (xs : List α) (lo hi st : Option Int) : List α :=
  (sliceRange (sliceBounds lo hi st xs.length).1 (sliceBounds lo hi st xs.length).2.1 (sliceBounds lo hi st xs.length).2.2).filterMap (xs[·]?)
end L3
namespace HT
open PySem PySem.Spec PyProof.Rows L2
end HT
end
section
namespace PySem
open Sem (wp)
end PySem
namespace L3
open PySem PySem.Spec PyProof.Rows L2 LamX ItX
section
variable {X : Cx} {K : PySem.W.Frag} {C : Addr} {k j : Nat} {E : XK}
def tSlOwn (C : Addr) (sp : Sp) (E : XK) (te : TE) (tl th ts : TO) : TE := fun σ H Q => te σ H fun x H1 => tl σ H1 fun l H2 => th σ H2 fun u H3 => ts σ H3 fun k H4 => ∃ a dx fs, x = .ref a ∧ H4 a = some (.ins C dx fs) ∧ ∀ sl, H4 sl = none → sp [x, .ref sl] (upd H4 sl (SlO sl l u k)) Q E
/-- xs[lo:hi:st], a list -/
def tSl3 (K : PySem.W.Frag) (te : TE) (tl th ts : TO) : TE := fun σ H Q => te σ H fun x H1 => tl σ H1 fun l H2 => th σ H2 fun u H3 => ts σ H3 fun k H4 => ∃ a xs, x = .ref a ∧ SqL K H4 a xs ∧ k ≠ some 0 ∧ ∀ p, H4 p = none → ap Q (.ref p) (upd H4 p (.lst (cut3 xs l u k)))
end
section
variable {K : PySem.W.Frag} {C : Addr} {E : XK} {σ : L2.St} {H : Hp} {D : Ends} {Q : VK} {te : TE} {tl th ts : TO} {sp : Sp}
theorem s_slOwn (h : te σ H fun x H1 => tl σ H1 fun l H2 => th σ H2 fun u H3 => ts σ H3 fun k H4 => ∃ a dx fs, x = .ref a ∧ H4 a = some (.ins C dx fs) ∧ ∀ sl, H4 sl = none → sp [x, .ref sl] (upd H4 sl (SlO sl l u k)) Q E) : tSlOwn C sp E te tl th ts σ H Q := h
theorem s_sl3 (h : te σ H fun x H1 => tl σ H1 fun l H2 => th σ H2 fun u H3 => ts σ H3 fun k H4 => ∃ a xs, x = .ref a ∧ SqL K H4 a xs ∧ k ≠ some 0 ∧ ∀ p, H4 p = none → ap Q (.ref p) (upd H4 p (.lst (cut3 xs l u k)))) : tSl3 K te tl th ts σ H Q := h
theorem s_lcO {spn : Nat → Sp} {ee : TE} {g : TG} {tt : TT} {vs : List Nat} (h : te σ H fun x H1 => ∃ a dx fs, x = .ref a ∧ H1 a = some (.ins C dx fs) ∧ ∀ n, spn n [.ref a] H1 (fun v H2 => ∃ it t, v = .ref it ∧ H2 it = some (ItT t it) ∧ n ≤ it ∧ LC (Itt K t) g tt ee vs σ (dropH H2 it) Q) E) : tLc (iOwn K C spn E te) g tt ee vs σ H Q := h
end
end L3
end
section
namespace L3
open PySem PySem.NumText PySem.Spec PyProof.Rows L2 LamX RZ ClX
section
variable {K : PySem.W.Frag} {CB CC CM CT CN : Addr} {σ : L2.St} {H : Hp} {Q : VK}
/-- lists of ints, new ones -/
def LsAt (H : Hp) : List Addr → List (List Int) → Prop
  | [], [] => True
  | q :: qs, n :: ns => H q = some (.lst (n.map V.int)) ∧ LsAt H qs ns
  | _, _ => False
theorem LsAt.imp {H H' : Hp} : ∀ {qs : List Addr} {nss : List (List Int)}, LsAt H qs nss → (∀ q ∈ qs, ∀ n : List Int, H q = some (.lst (n.map V.int)) → H' q = some (.lst (n.map V.int))) → LsAt H' qs nss
  | [], [], _, _ => trivial
  | q :: _, _ :: _, ⟨a, b⟩, k => ⟨k q List.mem_cons_self _ a, LsAt.imp b fun q h => k q (List.mem_cons_of_mem _ h)⟩
  | [], _ :: _, h, _ => h.elim
  | _ :: _, [], h, _ => h.elim
theorem LsAt.app {H : Hp} {q : Addr} {n : List Int} (hq : H q = some (.lst (n.map V.int))) : ∀ {qs : List Addr} {nss : List (List Int)}, LsAt H qs nss → LsAt H (qs ++ [q]) (nss ++ [n])
  | [], [], _ => ⟨hq, trivial⟩
  | _ :: _, _ :: _, ⟨a, b⟩ => ⟨a, LsAt.app hq b⟩
  | [], _ :: _, h => h.elim
  | _ :: _, [], h => h.elim
theorem LsAt.len {H : Hp} : ∀ {qs : List Addr} {nss : List (List Int)}, LsAt H qs nss → qs.length = nss.length
  | [], [], _ => rfl
  | _ :: _, _ :: _, ⟨_, b⟩ => by rw [List.length_cons, List.length_cons, LsAt.len b]
  | [], _ :: _, h => h.elim
  | _ :: _, [], h => h.elim
def lsD (ns : List Int) : PyData := .list (ns.map PyData.int)
theorem LsAt.dp {H : Hp} : ∀ {qs : List Addr} {nss : List (List Int)}, LsAt H qs nss → DpAll K H (qs.map V.ref) (nss.map lsD)
  | [], [], _ => .nil
  | _ :: _, _ :: _, ⟨a, b⟩ => .cons (.lst (.inl (.inl a)) (dpInts _)) (LsAt.dp b)
  | [], _ :: _, h => h.elim
  | _ :: _, [], h => h.elim
theorem lcLists {te : TE} {a : Addr} {xs : List V} {j : Nat} {vs : List Nat} (nss : List (List Int)) (ha : H a = some (.lst xs)) (hl : xs.length = nss.length) (hz : xs.length < sizeLine) (hw : ∀ x, wipe ((wipe σ vs).set j (some x)) vs = wipe σ vs)
    (step : ∀ (i : Nat) (x : V) (ns : List Int) (H1 : Hp) (R : VK), xs[i]? = some x → nss[i]? = some ns → Ex H H1 → (∀ q H2, H1 q = none → Ex H1 H2 → H2 q = some (.lst (ns.map V.int)) → R (.ref q) H2) → te ((wipe σ vs).set j (some x)) H1 R)
    (k : ∀ D H2 qs, H D = none → Ex H H2 → H2 D = some (.lst (qs.map V.ref)) → LsAt H2 qs nss → Q (.ref D) H2) : LC (Itl K a) (gName j) tYes te vs σ H Q := by
  intro D hD
  refine lc_list (K := K) (a := a) (xs := xs) (fun n H1 => Ex H H1 ∧ ∃ qs : List Addr, H1 D = some (.lst (qs.map V.ref)) ∧ LsAt H1 qs (nss.take n) ∧ D ∉ qs) ⟨ex_new hD, [], upd_same, trivial, by simp⟩ (fun n H1 _ ⟨e, _⟩ => .inl (.inl (e _ _ ha))) (fun n x H1 hx ⟨e, qs, h1, h2, h3⟩ => ?_) (fun H1 ⟨e, qs, h1, h2, h3⟩ => ?_)
  · have hn : n < xs.length := (List.getElem?_eq_some_iff.mp hx).1
    have hns : nss[n]? = some nss[n] := List.getElem?_eq_getElem (by omega)
    refine ⟨hw _, ?_⟩
    unfold tYes
    dsimp only
    refine iteT (step n x _ H1 _ hx hns e fun q H2 nq e2 hq => ?_)
    have hqD : q ≠ D := fun z => by rw [z, h1] at nq; cases nq
    refine ⟨_, e2 _ _ h1, ?_, fun c o hc => ?_, qs ++ [q], ?_, ?_, ?_⟩
    · rw [List.length_map, h2.len, List.length_take]; omega
    · rw [upd_ne (ne_of_none hc hD)]; exact e2 _ _ (e _ _ hc)
    · rw [upd_same, List.map_append]; rfl
    · rw [take_snoc hns]
      refine LsAt.app (by rw [upd_ne hqD]; exact hq) (h2.imp fun r hr n hn => ?_)
      rw [upd_ne (show r ≠ D from fun z => h3 (by rw [← z]; exact hr))]
      exact e2 _ _ hn
    · intro z
      rcases List.mem_append.mp z with z | z
      · exact h3 z
      · exact hqD (List.mem_singleton.mp z).symm
  · rw [hl, List.take_length] at h2
    exact k D H1 qs hD e h1 h2
end
end L3
end
section
namespace L3
open PySem PySem.Spec PySem.Calls PyProof.Rows PySem.W
end L3
namespace L3
open PySem PySem.NumText PySem.Spec PyProof.Rows L2 LamX RZ ClX
end L3
namespace L2
open PySem PySem.Spec PyProof.Rows
end L2
end
section
namespace L3
open PySem PySem.NumText PySem.Spec PyProof.Rows L2 LamX RZ ClX
inductive RT
  | fx (s : Int)
  | dv (x y w : Int)
  | jn (lo : Bool) (a b : RT)
deriving DecidableEq
namespace RT
def n : RT → Nat
  | fx _ => 1
  | dv _ _ _ => 1
  | jn _ a b => a.n + b.n
def md : RT → Nat
  | fx _ => 1
  | dv _ _ w => w.toNat
  | jn _ a b => Nat.lcm a.md b.md
def ok : RT → Prop
  | fx s => 1 ≤ s ∧ s ≤ 10 ^ 30
  | dv x y w => (0 ≤ x ∧ x ≤ 24) ∧ (-1000 ≤ y ∧ y ≤ 1000) ∧ (1 ≤ w ∧ w ≤ 24)
  | jn _ a b => a.ok ∧ b.ok
/-- which class -/
def ix : RT → Nat
  | fx _ => 0
  | dv _ _ _ => 1
  | jn true _ _ => 2
  | jn false _ _ => 3
theorem n_pos : ∀ t : RT, 1 ≤ t.n
  | fx _ => Nat.le_refl 1
  | dv _ _ _ => Nat.le_refl 1
  | jn _ a b => by have := a.n_pos; show 1 ≤ a.n + b.n; omega
theorem md_pos : ∀ {t : RT}, t.ok → 1 ≤ t.md
  | fx _, _ => Nat.le_refl 1
  | dv _ _ w, h => by have := h.2.2.1; show 1 ≤ w.toNat; omega
  | jn _ a b, h => Nat.lcm_pos (md_pos h.1) (md_pos h.2)
/-- in bounds, few parts, few residues -/
structure fine (t : RT) : Prop where
  ok : t.ok
  n : t.n ≤ 6
  md : t.md ≤ 5000
theorem md_l {lo : Bool} {a b : RT} (h : (jn lo a b).ok) : a.md ≤ (jn lo a b).md := Nat.le_of_dvd (md_pos h) (Nat.dvd_lcm_left _ _)
theorem fine.l {lo : Bool} {a b : RT} (h : (jn lo a b).fine) : a.fine := ⟨h.ok.1, by have h1 : a.n + b.n ≤ 6 := h.n; have := b.n_pos; omega, Nat.le_trans (md_l h.ok) h.md⟩
end RT
/-- the text's sign -/
def sgnS (lo : Bool) : Str := if lo then "&" else "|"
def PlAt (H : Hp) : RT → V → Prop
  | .fx s, v => ∃ p, v = .ref p ∧ H p = some (.tup [.str "fixed", .int s])
  | .dv x y w, v => ∃ p, v = .ref p ∧ H p = some (.tup [.str "divided", .int x, .int y, .int w])
  | .jn lo a b, v => ∃ p u1 u2, v = .ref p ∧ H p = some (.tup [.str (sgnS lo), u1, u2]) ∧ PlAt H a u1 ∧ PlAt H b u2
theorem PlAt.imp {H H' : Hp} (k : ∀ p xs, H p = some (.tup xs) → H' p = some (.tup xs)) : ∀ {t : RT} {v : V}, PlAt H t v → PlAt H' t v
  | .fx _, _, ⟨p, e, h⟩ => ⟨p, e, k _ _ h⟩
  | .dv _ _ _, _, ⟨p, e, h⟩ => ⟨p, e, k _ _ h⟩
  | .jn _ _ _, _, ⟨p, x, y, e, h, a, b⟩ => ⟨p, x, y, e, k _ _ h, PlAt.imp k a, PlAt.imp k b⟩
theorem PlAt.exN {H H' : Hp} {t : RT} {v : V} (h : PlAt H t v) (e : ExtN H H') : PlAt H' t v := h.imp fun p xs h => e _ _ h fun _ z => nomatch z
theorem PlAt.ex {H H' : Hp} {t : RT} {v : V} (h : PlAt H t v) (e : Ex H H') : PlAt H' t v := h.exN e.n
theorem PlAt.keep {H H' : Hp} {t : RT} {v : V} {p : Addr} {n : Nat} (h : PlAt H t v) (hp : Pen H p n) (k : ∀ b o, b ≠ p → H b = some o → H' b = some o) : PlAt H' t v := h.imp fun q xs e => tup_keep e hp k
/-- which kind it is stands first -/
theorem PlAt.ref {H : Hp} {t : RT} {v : V} (h : PlAt H t v) : ∃ p xs, v = .ref p ∧ H p = some (.tup xs) := by
  cases t with
  | fx s => obtain ⟨p, e, h⟩ := h; exact ⟨p, _, e, h⟩
  | dv x y w => obtain ⟨p, e, h⟩ := h; exact ⟨p, _, e, h⟩
  | jn lo a b => obtain ⟨p, x, y, e, h, _⟩ := h; exact ⟨p, _, e, h⟩
def PlAll (H : Hp) : List RT → List V → Prop
  | [], [] => True
  | t :: ts, v :: vs => PlAt H t v ∧ PlAll H ts vs
  | _, _ => False
theorem PlAll.imp {H H' : Hp} (k : ∀ t v, PlAt H t v → PlAt H' t v) : ∀ {ts : List RT} {vs : List V}, PlAll H ts vs → PlAll H' ts vs
  | [], [], _ => trivial
  | _ :: _, _ :: _, ⟨a, b⟩ => ⟨k _ _ a, PlAll.imp k b⟩
  | [], _ :: _, h => h.elim
  | _ :: _, [], h => h.elim
theorem PlAll.app {H : Hp} : ∀ {ts us : List RT} {vs ws : List V}, PlAll H ts vs → PlAll H us ws → PlAll H (ts ++ us) (vs ++ ws)
  | [], _, [], _, _, h => h
  | _ :: _, _, _ :: _, _, ⟨a, b⟩, h => ⟨a, PlAll.app b h⟩
  | [], _, _ :: _, _, h, _ => h.elim
  | _ :: _, _, [], _, h, _ => h.elim
theorem PlAll.len {H : Hp} : ∀ {ts : List RT} {vs : List V}, PlAll H ts vs → vs.length = ts.length
  | [], [], _ => rfl
  | _ :: _, _ :: _, ⟨_, b⟩ => by rw [List.length_cons, List.length_cons, PlAll.len b]
  | [], _ :: _, h => h.elim
  | _ :: _, [], h => h.elim
theorem PlAll.get {H : Hp} : ∀ {ts : List RT} {vs : List V} {i : Nat} {t : RT} {v : V}, PlAll H ts vs → ts[i]? = some t → vs[i]? = some v → PlAt H t v
  | t' :: ts, v' :: vs, 0, t, v, ⟨a, _⟩, h1, h2 => by simp at h1 h2; subst h1; subst h2; exact a
  | t' :: ts, v' :: vs, i + 1, t, v, ⟨_, b⟩, h1, h2 => PlAll.get b (by simpa using h1) (by simpa using h2)
  | [], [], _, _, _, _, h1, _ => by simp at h1
  | [], _ :: _, _, _, _, h, _, _ => h.elim
  | _ :: _, [], _, _, _, h, _, _ => h.elim
structure RA where
  f : Addr
  d : Addr
  l : Addr
  g : Addr
def RA.cs (C : RA) : List Addr := [C.f, C.d, C.l, C.g]
def RA.at (C : RA) (i : Nat) : Addr := C.cs.getD i 0
def RA.vs (C : RA) : List Value := [.ref C.f, .ref C.d, .ref C.l, .ref C.g]
def jnF (qa qb t : Addr) (m : Int) : List (Str × V) := putF "modulus" (.int m) (putF "parts" (.ref t) (putF "other" (.ref qb) (putF "one" (.ref qa) [])))
def RuAt (C : RA) (H : Hp) : RT → Addr → List Addr → Prop
  | .fx s, p, ps => ps = [p] ∧ Fx C.f H p s
  | .dv x y w, p, ps => ps = [p] ∧ Dv C.d H p x y w
  | .jn lo a b, p, ps => ∃ qa qb pa pb dx t, ps = pa ++ pb ∧ H p = some (.ins (if lo then C.l else C.g) dx (jnF qa qb t ((Nat.lcm a.md b.md : Nat) : Int))) ∧ H t = some (.tup (ps.map V.ref)) ∧ RuAt C H a qa pa ∧ RuAt C H b qb pb
section
variable {C : RA} {H H' : Hp}
theorem RuAt.imp (k1 : ∀ p xs, H p = some (.tup xs) → H' p = some (.tup xs)) (k2 : ∀ p c dx g v fs, H p = some (.ins c dx (putF g v fs)) → H' p = some (.ins c dx (putF g v fs))) : ∀ {t : RT} {p : Addr} {ps : List Addr}, RuAt C H t p ps → RuAt C H' t p ps
  | .fx _, _, _, ⟨e, dx, t, a, b⟩ => ⟨e, dx, t, k2 _ _ _ _ _ _ a, k1 _ _ b⟩
  | .dv _ _ _, _, _, ⟨e, dx, t, a, b⟩ => ⟨e, dx, t, k2 _ _ _ _ _ _ a, k1 _ _ b⟩
  | .jn _ _ _, _, _, ⟨qa, qb, pa, pb, dx, t, e, h1, h2, h3, h4⟩ => ⟨qa, qb, pa, pb, dx, t, e, k2 _ _ _ _ _ _ h1, k1 _ _ h2, RuAt.imp k1 k2 h3, RuAt.imp k1 k2 h4⟩
variable {t : RT} {p : Addr} {ps : List Addr}
theorem RuAt.exN (h : RuAt C H t p ps) (e : ExtN H H') : RuAt C H' t p ps := h.imp (fun _ _ h => e _ _ h fun _ z => nomatch z) fun _ _ _ _ _ _ h => e _ _ h fun _ z => nomatch z
theorem RuAt.ex (h : RuAt C H t p ps) (e : Ex H H') : RuAt C H' t p ps := h.exN e.n
theorem ins_ne {q c dx : Addr} {fs : List (Str × V)} {n : Nat} (hp : Pen H p n) (h : H q = some (.ins c dx fs)) : q ≠ p := hp.ne h fun c n z => by unfold PenO at z; cases z
theorem RuAt.keep {a : Addr} {n : Nat} (h : RuAt C H t p ps) (hp : Pen H a n) (k : ∀ b o, b ≠ a → H b = some o → H' b = some o) : RuAt C H' t p ps :=
  h.imp (fun _ _ h => tup_keep h hp k) fun _ _ _ _ _ _ h => k _ _ (ins_ne hp h) h
/-- an instance without attributes changes -/
theorem putF_ne {g : Str} {v : V} {fs : List (Str × V)} : putF g v fs ≠ [] := by
  intro z
  cases fs with
  | nil => cases z
  | cons a b => unfold putF at z; split at z <;> cases z
theorem RuAt.fresh {q c dx : Addr} (h : RuAt C H t p ps) (hq : H q = some (.ins c dx [])) (k : ∀ b o, b ≠ q → H b = some o → H' b = some o) : RuAt C H' t p ps :=
  h.imp (fun _ _ h => k _ _ (fun z => by rw [z, hq] at h; cases h) h) fun _ _ _ g v fs h => k _ _ (fun z => by
    rw [z, hq] at h
    injection h with h
    injection h with _ _ h
    exact putF_ne h.symm) h
theorem RuAt.len (h : RuAt C H t p ps) : ps.length = t.n := by
  induction t generalizing p ps with
  | fx s => rw [h.1]; rfl
  | dv x y w => rw [h.1]; rfl
  | jn lo a b ha hb =>
    obtain ⟨qa, qb, pa, pb, dx, t, e, _, _, h3, h4⟩ := h
    rw [e, List.length_append, ha h3, hb h4]; rfl
/-- what all of them have -/
theorem RuAt.ins (h : RuAt C H t p ps) : ∃ dx fs tp, H p = some (.ins (C.at t.ix) dx fs) ∧ fs.lookup ("parts" : Str) = some (.ref tp) ∧ H tp = some (.tup (ps.map V.ref)) ∧ ∃ m, fs.lookup ("modulus" : Str) = some (.int m) ∧ (t.ok → m = ((t.md : Nat) : Int)) := by
  cases t with
  | fx s => obtain ⟨rfl, dx, t, a, b⟩ := h; exact ⟨dx, _, t, a, rfl, b, _, rfl, fun _ => rfl⟩
  | dv x y w => obtain ⟨rfl, dx, t, a, b⟩ := h; exact ⟨dx, _, t, a, rfl, b, _, rfl, fun h => by have := h.2.2.1; show w = ((w.toNat : Nat) : Int); omega⟩
  | jn lo a b =>
    obtain ⟨qa, qb, pa, pb, dx, t, e, h1, h2, _⟩ := h
    cases lo
    · exact ⟨dx, _, t, h1, rfl, h2, _, rfl, fun _ => rfl⟩
    · exact ⟨dx, _, t, h1, rfl, h2, _, rfl, fun _ => rfl⟩
/-- the leaves are the parts -/
def RuAll (C : RA) (H : Hp) : List RT → List Addr → Prop
  | [], [] => True
  | t :: ts, p :: ps => RuAt C H t p [p] ∧ RuAll C H ts ps
  | _, _ => False
theorem RuAll.app : ∀ {ts us : List RT} {vs ws : List Addr}, RuAll C H ts vs → RuAll C H us ws → RuAll C H (ts ++ us) (vs ++ ws)
  | [], _, [], _, _, h => h
  | _ :: _, _, _ :: _, _, ⟨a, b⟩, h => ⟨a, RuAll.app b h⟩
  | [], _, _ :: _, _, h, _ => h.elim
  | _ :: _, _, [], _, h, _ => h.elim
theorem RuAll.imp (k : ∀ t p, RuAt C H t p [p] → RuAt C H' t p [p]) : ∀ {ts : List RT} {vs : List Addr}, RuAll C H ts vs → RuAll C H' ts vs
  | [], [], _ => trivial
  | _ :: _, _ :: _, ⟨a, b⟩ => ⟨k _ _ a, RuAll.imp k b⟩
  | [], _ :: _, h => h.elim
  | _ :: _, [], h => h.elim
theorem RuAll.len : ∀ {ts : List RT} {vs : List Addr}, RuAll C H ts vs → vs.length = ts.length
  | [], [], _ => rfl
  | _ :: _, _ :: _, ⟨_, b⟩ => by rw [List.length_cons, List.length_cons, RuAll.len b]
  | [], _ :: _, h => h.elim
  | _ :: _, [], h => h.elim
theorem RuAll.get : ∀ {ts : List RT} {vs : List Addr} {i : Nat} {t : RT} {v : Addr}, RuAll C H ts vs → ts[i]? = some t → vs[i]? = some v → RuAt C H t v [v]
  | t' :: ts, v' :: vs, 0, t, v, ⟨a, _⟩, h1, h2 => by simp at h1 h2; subst h1; subst h2; exact a
  | t' :: ts, v' :: vs, i + 1, t, v, ⟨_, b⟩, h1, h2 => RuAll.get b (by simpa using h1) (by simpa using h2)
  | [], [], _, _, _, _, h1, _ => by simp at h1
  | [], _ :: _, _, _, _, h, _, _ => h.elim
  | _ :: _, [], _, _, _, h, _, _ => h.elim
end
/-- no rule that can be joined -/
def NJ (K : PySem.W.Frag) (C : RA) (H : Hp) (v : V) : Prop := ∃ ty, TyX K H v ty ∧ PySem.W.kitAny K ty C.vs = some false
theorem NJ.exN {K : PySem.W.Frag} {C : RA} {H H' : Hp} {v : V} (h : NJ K C H v) (e : ExtN H H') : NJ K C H' v := by
  obtain ⟨t, a, b⟩ := h
  exact ⟨t, L3.TyX.exN a e, b⟩
/-- a rule that is fine -/
def RuF (C : RA) (H : Hp) (t : RT) (v : V) (ps : List Addr) : Prop := t.fine ∧ ∃ p, v = .ref p ∧ RuAt C H t p ps
theorem RuF.exN {C : RA} {H H' : Hp} {t : RT} {v : V} {ps : List Addr} (h : RuF C H t v ps) (e : ExtN H H') : RuF C H' t v ps := ⟨h.1, let ⟨p, a, b⟩ := h.2; ⟨p, a, b.exN e⟩⟩
/-- two sides that are rules: what the bounds say -/
def JnB (CM : Addr) (H : Hp) (a b : RT) (G : Prop) (E : XK) : Prop := (6 < a.n + b.n ∧ Rz2 CM "what" "most" (.str "parts") (.int 6) H E) ∨ (a.n + b.n ≤ 6 ∧ ((5000 < Nat.lcm a.md b.md ∧ Rz2 CM "what" "most" (.str "residues") (.int 5000) H E) ∨ (Nat.lcm a.md b.md ≤ 5000 ∧ G)))
def RA.jn (C : RA) (lo : Bool) : Addr := if lo then C.l else C.g
theorem JnB.fine {CM : Addr} {H : Hp} {a b : RT} {G : Prop} {E : XK} {lo : Bool} (ha : a.fine) (hb : b.fine) (h1 : a.n + b.n ≤ 6) (h2 : Nat.lcm a.md b.md ≤ 5000) : (RT.jn lo a b).fine := ⟨⟨ha.ok, hb.ok⟩, h1, h2⟩
end L3
end
section
namespace L3
open PySem PySem.NumText PySem.Spec PyProof.Rows L2 LamX RZ ClX
end L3
end
section
namespace L3
open PySem PySem.NumText PySem.Spec PyProof.Rows L2 LamX RZ ClX
end L3
end
section
namespace L3
open PySem PySem.NumText PySem.Spec PyProof.Rows L2 LamX RZ ClX
/-- what is not tracked stays -/
def UnD (H0 H1 : Hp) (h0 h1 : Heap) : Prop := ∀ b o, h0.get? b = some o → H0 b = none → (∃ sl, h1.get? b = some { o with slots := sl }) ∧ H1 b = none
theorem UnD.trans {H0 H1 H2 : Hp} {h0 h1 h2 : Heap} (a : UnD H0 H1 h0 h1) (b : UnD H1 H2 h1 h2) : UnD H0 H2 h0 h2 := fun c o e n => by
  obtain ⟨⟨sl, e1⟩, n1⟩ := a c o e n
  obtain ⟨⟨sl2, e2⟩, n2⟩ := b c _ e1 n1
  exact ⟨⟨sl2, e2⟩, n2⟩
theorem UnD.of {fs : List Addr} {H H1 : Hp} {h h1 : Heap} (u : Un fs [] H H1 h h1) : UnD H H1 h h1 := fun b o e n => ⟨u.any e n (by simp), u.free b o e n (by simp)⟩
theorem UnD.refl {H : Hp} {h : Heap} : UnD H H h h := fun b o e n => ⟨⟨o.slots, e⟩, n⟩
/-- a function that can be called in all states behind this one; tl: what its call comes to -/
def LamCan (P : Program) (w : World) (K : PySem.W.Frag) (mg : Str → Option Value) (base : Heap) (k : Nat) (f : Addr) (tl : V → XK → Hp → VK → Prop) (H0 : Hp) (s0 : Shared) : Prop :=
  ∀ (A : Around) (outer : List Env) (s1 : Shared) (H1 : Hp) (u : Value) (v : V) (Q : VK) (E : XK), Room k A → Env0 P w K mg base A outer s1 H1 → UnD H0 H1 s0.heap s1.heap → RelV v u → tl v E H1 Q → codeAny (model P w) A (.call (.ref f) ⟨[u], []⟩) (CR (L2.CX P w) outer P w H1 s1 Q E) s1
theorem LamCan.up {P : Program} {w : World} {K : PySem.W.Frag} {mg : Str → Option Value} {base : Heap} {k : Nat} {f : Addr} {tl : V → XK → Hp → VK → Prop} {H0 H1 : Hp} {s0 s1 : Shared} (c : LamCan P w K mg base k f tl H0 s0) (u : UnD H0 H1 s0.heap s1.heap) : LamCan P w K mg base k f tl H1 s1 :=
  fun A outer s2 H2 uu v Q E hr e0 un rv ht => c A outer s2 H2 uu v Q E hr e0 (u.trans un) rv ht
/-- one parameter, captured names, globals -/
structure LamS1 (sc scope : Scope) (x : Str) : Prop where
  kind : scope.kind = .function
  co : scope.isCoroutine = false
  gen : scope.isGenerator = false
  own : ∀ y ∈ scope.names, (y.2 = .local → y.1 = x) ∧ y.2 ≠ .cell
  par : scope.names.lookup x = some .local
  free : ∀ y ∈ scope.names, y.2 = .free → sc.names.lookup y.1 = some .cell ∨ sc.names.lookup y.1 = some .free
theorem LamS1.has {X : Cx} {scope : Scope} {x : Str} (L : LamS1 X.env.scope scope x) (ok : X.Ok) : ∀ y ∈ scope.names, y.2 = .free → ∃ c, X.env.cells.lookup y.1 = some c := fun y hy e => by
  rcases L.free y hy e with k | k
  · exact ok.has _ (.inl k)
  · exact ok.has _ (.inr k)
section
variable {X : Cx} {pins : List (Addr × Obj)} {σ : L2.St} {H : Hp} {s : Shared} {a C dx : Addr} {fs : List (Str × V)} {A : Around} {E : Value → Shared → Prop}
/-- a function object of any kind -/
def FnO' (H : Hp) (f : Addr) : Prop := (∃ env params body scope c', H f = some (LamO f env params body scope c')) ∨ ∃ q params body scope c', H f = some (LamF f q params body scope c')
theorem FnO'.exN {H H' : Hp} {f : Addr} (h : FnO' H f) (e : ExtN H H') : FnO' H' f :=
  Or.imp (fun ⟨env, a, b, c, d, h⟩ => ⟨env, a, b, c, d, e _ _ h fun _ z => by unfold LamO at z; cases z⟩) (fun ⟨q, a, b, c, d, h⟩ => ⟨q, a, b, c, d, e _ _ h fun _ z => by unfold LamF at z; cases z⟩) h
end
end L3
end
section
namespace L3
open PySem PySem.NumText PySem.Spec PyProof.Rows L2 LamX RZ ClX
theorem all_map {α : Type} (f : α → Bool) (l : List α) : (l.map f).all id = l.all f := by rw [List.all_map]; rfl
theorem fig_parts {z : Str} (h : figB z = true) : (figsOf z).cps.toList ≠ [] ∧ (figsOf z).cps.toList.all isDig = true ∧ (figsOf z).length ≤ 4000 := by
  unfold figB at h
  simp only [Bool.and_eq_true, decide_eq_true_eq] at h
  obtain ⟨⟨⟨h1, h2⟩, h3⟩, _⟩ := h
  refine ⟨fun e => ?_, h3, by omega⟩
  have := len_codes (figsOf z)
  rw [e] at this
  simp at this
  omega
def toks : RT → List Str
  | .fx s => ["fixed", strOf s]
  | .dv x y w => ["divided", strOf x, strOf y, strOf w]
  | .jn lo a b => "(" :: (toks a ++ (sgnS lo :: (toks b ++ [(")" : Str)])))
section
variable {ws : List Str}
theorem str32 (n : Int) : 32 ∉ (strOf n).cps.toList := by
  rcases strOf_cases n with ⟨m, rfl, h⟩ | ⟨m, _, rfl, h⟩
  · rw [h]; exact TL.numL_free (.inl (by decide))
  · rw [h]
    intro z
    rcases List.mem_cons.mp z with z | z
    · cases z
    · exact TL.numL_free (.inl (by decide)) z
theorem joinL_app (S : List Nat) : ∀ (ps qs : List (List Nat)), ps ≠ [] → qs ≠ [] → TL.joinL S (ps ++ qs) = TL.joinL S ps ++ (S ++ TL.joinL S qs) := by
  intro ps
  induction ps with
  | nil => intro qs h; exact absurd rfl h
  | cons a r ih =>
    intro qs _ hq
    cases r with
    | nil =>
      cases qs with
      | nil => exact absurd rfl hq
      | cons q s => rfl
    | cons b s =>
      have := ih qs (by simp) hq
      show a ++ (S ++ TL.joinL S ((b :: s) ++ qs)) = (a ++ (S ++ TL.joinL S (b :: s))) ++ (S ++ TL.joinL S qs)
      rw [this]; simp
end
end L3
end
section
namespace L3
open PySem PySem.NumText PySem.Spec PyProof.Rows L2 LamX RZ ClX
theorem wds_flat : ∀ {us : List Str}, us ≠ [] → wds (Txt.join " " us) = us.flatMap wds := by
  intro us hu
  have hj : ∀ us : List Str, us ≠ [] → TL.joinL [32] (us.map TL.tl) = TL.joinL [32] ((us.flatMap wds).map TL.tl) ∧ us.flatMap wds ≠ [] := by
    intro us
    induction us with
    | nil => intro h; exact absurd rfl h
    | cons u r ih =>
      intro _
      have hw := wds_facts u
      have n1 : (wds u).map TL.tl ≠ [] := by simpa using hw.1
      cases r with
      | nil =>
        refine ⟨?_, by simpa using hw.1⟩
        rw [List.flatMap_cons, List.flatMap_nil, List.append_nil, hw.2.1]
        rfl
      | cons v s =>
        obtain ⟨h1, h2⟩ := ih (by simp)
        refine ⟨?_, by rw [List.flatMap_cons]; exact fun z => hw.1 (List.append_eq_nil_iff.mp z).1⟩
        rw [List.flatMap_cons, List.map_append, joinL_app _ _ _ n1 (by simpa using h2), hw.2.1, ← h1]
        rfl
  have e : Txt.join " " us = Txt.join " " (us.flatMap wds) := by
    refine str_ext ?_
    show TL.tl (Txt.join " " us) = TL.tl (Txt.join " " (us.flatMap wds))
    rw [TL.join_eq, TL.tl_join, TL.join_eq, TL.tl_join, show TL.tl " " = [32] by decide +kernel]
    exact (hj us hu).1
  rw [e]
  refine wds_join (hj us hu).2 fun p hp => ?_
  obtain ⟨u, _, hp⟩ := List.mem_flatMap.mp hp
  exact ((wds_facts u).2.2 p hp).1
/-- a page of at most N words, each a short one -/
def Pw (N : Nat) (z : Str) : Prop := (∀ w ∈ wds z, Pt 40 w) ∧ (wds z).length ≤ N
theorem Pw.mono {N M : Nat} {z : Str} (h : Pw N z) (hm : N ≤ M) : Pw M z := ⟨h.1, Nat.le_trans h.2 hm⟩
theorem join_wds' (z : Str) : Txt.join " " (wds z) = z := by
  refine str_ext ?_
  show TL.tl (Txt.join " " (wds z)) = z.cps.toList
  rw [TL.join_eq, TL.tl_join, show TL.tl " " = [32] by decide +kernel]
  exact (wds_facts z).2.1
theorem Pw.pt {N : Nat} {z : Str} (h : Pw N z) : Pt (41 * N) z := by
  have := pt_join (n := N) h.1 h.2
  rw [join_wds'] at this
  exact ⟨Nat.le_trans this.1 (by omega), this.2⟩
theorem Pw.join {N : Nat} {us : List Str} (h1 : ∀ w ∈ us.flatMap wds, Pt 40 w) (h2 : (us.flatMap wds).length ≤ N) (hN : 1 ≤ N) : Pw N (Txt.join " " us) := by
  by_cases hu : us = []
  · subst hu
    have e : wds (Txt.join " " ([] : List Str)) = [("" : Str)] := by decide +kernel
    unfold Pw
    rw [e]
    exact ⟨fun w hw => by rw [List.mem_singleton.mp hw]; exact pt_of (by decide +kernel), hN⟩
  · unfold Pw
    rw [wds_flat hu]
    exact ⟨h1, h2⟩
end L3
end
section
namespace L3
open PySem PySem.Spec PySem.Calls PyProof.Rows PySem.W
section
variable {prog : Program} {w : World} {K : Type} [DecidableEq K] {knd : KeyKind prog w K} {A : Around} {E : Value → Shared → Prop} {s : Shared}
theorem wp_dictPut {d : Addr} {kvs : List (K × Value)} {k : K} {key v : Value} {Q : Unit → Shared → Prop} (hkey : knd.is k key = true) (hm : s.heap.DictOf knd d kvs) (hsz : kvs.length ≤ sizeLine)
    (hQ : ∀ h', h'.DictOf knd d (stored kvs k v) → Heap.SameBut d s.heap h' → Q () { s with heap := h' }) : wpAny (model prog w) A (dictPut d (knd.hash k) key v) Q E s := by
  obtain ⟨o, es, ep, ho, hc, hd, hk, hp, hn⟩ := hm
  have len : es.size = kvs.length := by rw [← hp.length]; simp
  have same : (es.findIdx? fun e => knd.is k e.key) = kvs.findIdx? fun kv => decide (kv.1 = k) := by
    have := hp.findIdx k
    obtain ⟨l⟩ := es
    simpa using this
  have inL : (es.toList.findIdx? fun e => knd.is k e.key) = es.findIdx? fun e => knd.is k e.key := by
    obtain ⟨l⟩ := es; simp
  unfold dictPut
  refine wpAny_bind (wpAny_dictFind_of hkey ho hd hk ?_)
  generalize hi : (es.findIdx? fun e => knd.is k e.key) = r at same inL
  match r with
  | some i =>
    refine wpAny_updateDict ho hd (hQ _ ?_ (Heap.SameBut.update ..))
    refine ⟨_, _, ep, Heap.get?_update_self _ ho (Obj.isFreed_of_dict (Obj.data_mapDict hd _)), hc.mapDict _, Obj.data_mapDict hd _, hk.modify _ _, ?_, ?_⟩
    · rw [stored, if_pos (any_of_findIdx_some same.symm)]
      have := hp.modify hn inL v
      obtain ⟨l⟩ := es
      simpa using this
    · rw [stored, if_pos (any_of_findIdx_some same.symm), keys_map_store]
      exact hn
  | none =>
    have out : k ∉ kvs.map (·.1) := not_mem_of_findIdx_none same.symm
    have no : ¬ (kvs.any fun kv => decide (kv.1 = k)) = true := fun z => by
      obtain ⟨kv, h1, h2⟩ := List.any_eq_true.mp z
      exact out (List.mem_map.mpr ⟨kv, h1, of_decide_eq_true h2⟩)
    refine wpAny_updateDictKeys (hz := by omega) ho hd (hQ _ ?_ (Heap.SameBut.update ..))
    refine ⟨_, _, ep + 1, Heap.get?_update_self _ ho (Obj.isFreed_of_dict (Obj.data_mapDictKeys hd _)), hc.mapDictKeys _, Obj.data_mapDictKeys hd _, hk.push hkey _, ?_, ?_⟩
    · rw [stored, if_neg no]
      have := hp.append hkey (knd.hash k) v
      obtain ⟨l⟩ := es
      simpa using this
    · rw [stored, if_neg no, List.map_append]
      refine List.nodup_append.mpr ⟨hn, by simp, fun x hx y hy => ?_⟩
      rw [List.mem_singleton.mp hy]
      intro e; rw [e] at hx; exact out hx
theorem keys_stored {kvs : List (K × Value)} {k x : K} {v : Value} (h : x ∈ (stored kvs k v).map (·.1)) : x ∈ kvs.map (·.1) ∨ x = k := by
  unfold stored at h
  split at h
  · rw [keys_map_store] at h; exact .inl h
  · rw [List.map_append] at h
    exact (List.mem_append.mp h).imp id fun z => List.mem_singleton.mp z
theorem keys_merged {x : K} : ∀ {ms kvs : List (K × Value)}, x ∈ (merged kvs ms).map (·.1) → x ∈ kvs.map (·.1) ∨ x ∈ ms.map (·.1)
  | [], _, h => .inl h
  | (k, v) :: r, kvs, h => by
    have h : x ∈ (merged (stored kvs k v) r).map (·.1) := h
    rcases keys_merged h with h | h
    · rcases keys_stored h with h | h
      · exact .inl h
      · exact .inr (by rw [h]; simp)
    · exact .inr (by rw [List.map_cons]; exact List.mem_cons_of_mem _ h)
/-- the dict at o, laid into the one at d -/
theorem wp_merge {d o : Addr} {kvs ms : List (K × Value)} {u : Bool} {Q : Unit → Shared → Prop} (hne : d ≠ o) (hs : (o == sysModules) = false) (hr : ∀ k v, knd.is k v = true → ∀ a, v ≠ .ref a) (hd : s.heap.DictOf knd d kvs) (ho : s.heap.DictOf knd o ms) (hz : kvs.length + ms.length ≤ sizeLine)
    (hu : u = true → ∀ p ∈ ms, p.1 ∉ kvs.map (·.1)) (hQ : ∀ h', h'.DictOf knd d (merged kvs ms) → Heap.SameBut d s.heap h' → Q () { s with heap := h' }) : wpAny (model prog w) A (mergeMapping d (.ref o) u) Q E s := by
  obtain ⟨od, ed, pd, hod, hcd, hdd, hkd, hpd, hnd⟩ := id hd
  obtain ⟨oo, eo, po, hoo, hco, hdo, hko, hpo, hno⟩ := id ho
  have tyo : s.TypeIs (.ref o) "dict" := ⟨oo, hoo, hco.1⟩
  unfold mergeMapping
  refine wpAny_bind (wpAny_isInstance tyo (b := true) (U := "dict") (by rw [isSubtype_type]; kernel_rfl) ?_)
  rw [if_pos rfl]
  refine wpAny_bind (wpAny_specialOf tyo (r := some (.builtin "dict.__iter__")) PySem.F.slot_dict_iter.lookup ?_)
  try dsimp only
  simp only [beq_self_eq_true]
  try dsimp only
  refine wpAny_bind (wpAny_pure ?_)
  try dsimp only
  rw [hs, if_neg Bool.false_ne_true]
  have len : eo.size = ms.length := by rw [← hpo.length]; simp
  have turn : ∀ (i : Nat), i < eo.size → ∀ (h' : Heap) (R : ForInStep PUnit → Shared → Prop), h'.DictOf knd d (merged kvs (ms.take i)) → h'.get? o = some oo → Heap.SameBut d s.heap h' →
      (∀ h'', h''.DictOf knd d (merged kvs (ms.take (i + 1))) → h''.get? o = some oo → Heap.SameBut d s.heap h'' → R (.yield PUnit.unit) { s with heap := h'' }) →
      wpAny (model prog w) A (do
        let l ← dictEntries o
        match l[i]? with
          | some e => do
            holding [e.key, e.val] (if u = true then do
                let j ← dictFind d e.key e.hash
                if j.isSome = true then do
                    rule "dict.merge.duplicate-key"
                    let x ← newExc (Value.type "KeyError") [e.key]
                    raiseNew x
                    dictPut d e.hash e.key e.val
                  else dictPut d e.hash e.key e.val
              else dictPut d e.hash e.key e.val)
            let ep ← dictEpoch o
            if (ep != po) = true then do
                unsupported "dict.changed-during-merge"
                pure (ForInStep.yield PUnit.unit)
              else pure (ForInStep.yield PUnit.unit)
          | _ => do
            unsupported "dict.changed-during-merge"
            pure (ForInStep.yield PUnit.unit)) R E { s with heap := h' } := by
    intro i hi h' R hd' ho' hs' k
    refine wpAny_bind (wpAny_dictEntries ho' hdo ?_)
    rw [Array.getElem?_eq_getElem hi]
    obtain ⟨⟨k', v⟩, hkv⟩ : ∃ p, ms[i]? = some p := ⟨_, List.getElem?_eq_getElem (by omega)⟩
    obtain ⟨hkey, hval⟩ := hpo.get? (e := eo[i]) (by simp [hi]) hkv
    obtain ⟨k2, hkey2, hhash⟩ := hko eo[i] (Array.getElem_mem hi)
    obtain rfl : k2 = k' := knd.inj _ _ _ hkey2 hkey
    try dsimp only
    have sz : (merged kvs (ms.take i)).length ≤ sizeLine := by
      have e1 := merged_length_le kvs (ms.take i)
      have e2 : (ms.take i).length ≤ ms.length := by rw [List.length_take]; omega
      omega
    have put : wpAny (model prog w) A (dictPut d eo[i].hash eo[i].key eo[i].val) (fun _ s' => wpAny (model prog w) A (do
            let ep ← dictEpoch o
            if (ep != po) = true then do
                unsupported "dict.changed-during-merge"
                pure (ForInStep.yield PUnit.unit)
              else pure (ForInStep.yield PUnit.unit)) R E s') E { s with heap := h' } := by
      rw [hhash, hval]
      refine wp_dictPut hkey hd' sz fun h2 hd2 sb => ?_
      have ho2 : h2.get? o = some oo := (sb.2 o (Ne.symm hne)).trans ho'
      refine wpAny_bind (wpAny_dictEpoch ho2 hdo ?_)
      rw [if_neg (by simp)]
      exact wpAny_pure (k h2 (by rw [merged_take_succ kvs ms i _ hkv]; exact hd2) ho2 (hs'.trans sb))
    refine wpAny_bind (wpAny_holding ?_)
    cases u with
    | false => exact put
    | true =>
      rw [if_pos rfl]
      obtain ⟨ox, ex, px, hox, hcx, hdx, hkx, hpx, hnx⟩ := id hd'
      rw [hhash]
      refine wpAny_bind (wpAny_dictFind_of hkey hox hdx hkx ?_)
      have nk : k2 ∉ (merged kvs (ms.take i)).map (·.1) := fun z => by
        rcases keys_merged z with z | z
        · exact hu rfl _ (List.mem_of_getElem? hkv) z
        · obtain ⟨p, hp, ep⟩ := List.mem_map.mp z
          obtain ⟨j, hj, hjp⟩ := List.getElem_of_mem hp
          rw [List.length_take] at hj
          have hj2 : ms[j]? = some p := by rw [← hjp, List.getElem_take, List.getElem?_eq_getElem]
          have h1 : (ms.map (·.1))[j]? = some k2 := by rw [List.getElem?_map, hj2]; exact congrArg some ep
          have h2 : (ms.map (·.1))[i]? = some k2 := by rw [List.getElem?_map, hkv]; rfl
          obtain ⟨l1, g1⟩ := List.getElem?_eq_some_iff.mp h1
          obtain ⟨l2, g2⟩ := List.getElem?_eq_some_iff.mp h2
          exact List.pairwise_iff_getElem.mp hno j i l1 l2 (by omega) (g1.trans g2.symm)
      have fn : (ex.findIdx? fun e => knd.is k2 e.key) = none := by
        have e1 := hpx.findIdx k2
        have e2 : ((merged kvs (ms.take i)).findIdx? fun kv => decide (kv.1 = k2)) = none := by
          rw [List.findIdx?_eq_none_iff]
          intro p hp
          exact decide_eq_false fun e => nk (List.mem_map.mpr ⟨p, hp, e⟩)
        rw [e2] at e1
        obtain ⟨l⟩ := ex
        simpa using e1
      rw [fn, if_neg (by simp)]
      rw [hhash] at put
      exact put
  have all : wpAny (model prog w) A (do
        let l ← dictEntries o
        let ep ← dictEpoch o
        forIn (List.range l.size) PUnit.unit fun i _ => (do
          let l ← dictEntries o
          match l[i]? with
            | some e => do
              holding [e.key, e.val] (if u = true then do
                  let j ← dictFind d e.key e.hash
                  if j.isSome = true then do
                      rule "dict.merge.duplicate-key"
                      let x ← newExc (Value.type "KeyError") [e.key]
                      raiseNew x
                      dictPut d e.hash e.key e.val
                    else dictPut d e.hash e.key e.val
                else dictPut d e.hash e.key e.val)
              let ep' ← dictEpoch o
              if (ep' != ep) = true then do
                  unsupported "dict.changed-during-merge"
                  pure (ForInStep.yield PUnit.unit)
                else pure (ForInStep.yield PUnit.unit)
            | _ => do
              unsupported "dict.changed-during-merge"
              pure (ForInStep.yield PUnit.unit) : Sem (ForInStep PUnit))
        pure ()) Q E s := by
    refine wpAny_bind (wpAny_dictEntries hoo hdo (wpAny_bind (wpAny_dictEpoch hoo hdo ?_)))
    refine wpAny_bind (wpAny_forIn_list _ (fun rest _ s' => ∃ i h', rest = List.range' i (eo.size - i) ∧ i ≤ eo.size ∧ s' = { s with heap := h' } ∧ h'.DictOf knd d (merged kvs (ms.take i)) ∧ h'.get? o = some oo ∧ Heap.SameBut d s.heap h') _ ?_ ?_ _ _ ⟨0, s.heap, by rw [List.range_eq_range', Nat.sub_zero], Nat.zero_le _, rfl, hd, hoo, Heap.SameBut.refl _ _⟩)
    · rintro x rest _ _ ⟨i, h', hr', hi, rfl, hd', ho', hs'⟩
      have lt : i < eo.size := by
        refine Nat.lt_of_le_of_ne hi fun z => ?_
        rw [z, Nat.sub_self] at hr'
        cases hr'
      rw [show eo.size - i = (eo.size - (i + 1)) + 1 by omega, List.range'_succ] at hr'
      injection hr' with e1 e2
      subst e1
      exact turn x lt h' _ hd' ho' hs' fun h2 a b c => ⟨x + 1, h2, e2, lt, rfl, a, b, c⟩
    · rintro _ _ ⟨i, h', hr', hi, rfl, hd', ho', hs'⟩
      have ei : i = eo.size := by
        refine Nat.le_antisymm hi (Nat.le_of_not_lt fun z => ?_)
        rw [show eo.size - i = (eo.size - (i + 1)) + 1 by omega, List.range'_succ] at hr'
        cases hr'
      rw [ei, len, List.take_length] at hd'
      exact wpAny_pure (hQ h' hd' hs')
  refine wpAny_bind (wpAny_dictEntries hod hdd ?_)
  split
  · refine wpAny_bind (wpAny_dictEntries hoo hdo (wpAny_bind ?_))
    refine PySem.MeetsSeq2.wpAny_forIn_array _ (fun rest _ s' => s' = s ∧ ∀ e ∈ rest, e ∈ eo.toList) _ ?_ ?_ _ _ ⟨rfl, fun e he => he⟩
    · rintro e rest _ _ ⟨rfl, hm⟩
      obtain ⟨k', hk', _⟩ := hko e (by simpa using hm e List.mem_cons_self)
      have := hr _ _ hk'
      split
      · rename_i a he
        exact absurd he (this a)
      · exact wpAny_pure ⟨rfl, fun e he => hm e (List.mem_cons_of_mem _ he)⟩
    · rintro _ _ ⟨rfl, _⟩
      exact all
  · exact all
end
end L3
end
section
namespace L3
open PySem PySem.Spec PySem.Calls PyProof.Rows PySem.W L2
section
variable {prog : Program} {w : World} {A : Around} {E : Value → Shared → Prop} {s : Shared}
theorem wp_nsSetK {d : Addr} {kvs : List (Key × Value)} {k : Str} {v : Value} {Q : Unit → Shared → Prop} (hm : s.heap.DictOf (mixKind prog w) d kvs) (hk : (Sum.inr k : Key) ∉ kvs.map (·.1))
    (hQ : ∀ h', h'.DictOf (mixKind prog w) d (kvs ++ [(Sum.inr k, v)]) → Heap.SameBut d s.heap h' → Q () { s with heap := h', toks := s.toks + 1 }) : wpAny (model prog w) A (nsSet d k v) Q E s := by
  obtain ⟨⟨cls, dd, dt, sl⟩, es, ep, ho, ⟨rfl, rfl, rfl⟩, rfl, hks, hp, hn⟩ := hm
  have no : ∀ e ∈ es.toList, e.key.isStr k = false := by
    have e1 := hp.findIdx (Sum.inr k)
    have e2 : (kvs.findIdx? fun kv => decide (kv.1 = (Sum.inr k : Key))) = none := by
      rw [List.findIdx?_eq_none_iff]
      intro p hp'
      exact decide_eq_false fun e => hk (List.mem_map.mpr ⟨p, hp', e⟩)
    rw [e2] at e1
    rw [List.findIdx?_eq_none_iff] at e1
    intro e he
    have := e1 e he
    cases q : e.key with
    | str z t =>
      rw [q] at this
      have this : keyIs (Sum.inr k) (.str z t) = false := this
      cases r : (Value.str z t).isStr k with
      | false => rfl
      | true =>
        have ez : z = k := by simpa [Value.isStr] using r
        rw [ez, keyIs_str] at this
        cases this
    | _ => rfl
  have noR : ∀ e ∈ es.toList, e.refKey = false := fun e he => by
    obtain ⟨k2, hk2, _⟩ := hks e (by simpa using he)
    rcases keyIs_shape hk2 with ⟨i, t, _, e2⟩ | ⟨x, t, _, e2⟩ <;> (unfold DictEntry.refKey; rw [e2])
  have any1 : es.any (·.refKey) = false := by
    rw [← Array.any_toList]
    cases q : es.toList.any (·.refKey) with
    | false => rfl
    | true => obtain ⟨e, he, z⟩ := List.any_eq_true.mp q; rw [noR e he] at z; cases z
  have any2 : es.toList.any (·.key.isStr k) = false := by
    cases q : es.toList.any (·.key.isStr k) with
    | false => rfl
    | true => obtain ⟨e, he, z⟩ := List.any_eq_true.mp q; rw [no e he] at z; cases z
  have may : aRefKeyMayBeTheName k es = false := by
    rw [aRefKeyMayBeTheName_at, any1, Bool.and_false]
  have put : ∀ u, Obj.putName k (PyData.keyHash w.params k) (.str k s.toks) v u = Obj.putName k (hashStr w k) (.str k s.toks) v u := fun _ => rfl
  unfold nsSet
  refine wpAny_bind (wpAny_bind (wpAny_askSetting (wpAny_pure (wpAny_bind (wpAny_mkText (wpAny_bind (wpAny_loadPart ho ?_)))))))
  dsimp only
  rw [may]
  refine wpAny_updatePart ho ?_
  have e : Obj.putName k (hashStr w k) (.str k s.toks) v ⟨.type "dict", none, .dict es ep, #[]⟩ = dictOf (es.toList ++ [⟨hashStr w k, .str k s.toks, v⟩]) (ep + 1) := by
    have z := putName_dict k (hashStr w k) (.str k s.toks) v es.toList ep
    rw [putL_new no, show putN k es.toList ep = ep + 1 from if_neg (by rw [any2]; exact Bool.false_ne_true)] at z
    rw [← z]
  have g : (s.heap.update d (Obj.putName k (hashStr w k) (.str k s.toks) v)).get? d = some (dictOf (es.toList ++ [⟨hashStr w k, .str k s.toks, v⟩]) (ep + 1)) :=
    (Heap.get?_update_self _ ho (by rw [e]; rfl)).trans (congrArg some e)
  have D : (s.heap.update d (Obj.putName k (hashStr w k) (.str k s.toks) v)).DictOf (mixKind prog w) d (kvs ++ [(Sum.inr k, v)]) := by
    refine ⟨dictOf (es.toList ++ [⟨hashStr w k, .str k s.toks, v⟩]) (ep + 1), (es.toList ++ [(⟨hashStr w k, .str k s.toks, v⟩ : DictEntry)]).toArray, ep + 1, g, ⟨rfl, rfl, rfl⟩, rfl, ?_, ?_, ?_⟩
    · intro x hx
      rw [List.mem_toArray] at hx
      rcases List.mem_append.mp hx with hx | hx
      · exact hks x (by simpa using hx)
      · rw [List.mem_singleton.mp hx]
        exact ⟨Sum.inr k, keyIs_str k s.toks, rfl⟩
    · have := hp.append (show (mixKind prog w).is (Sum.inr k) (.str k s.toks) = true from keyIs_str k s.toks) (hashStr w k) v
      simpa using this
    · rw [List.map_append]
      refine List.nodup_append.mpr ⟨hn, by simp, fun x hx y hy => ?_⟩
      rw [List.mem_singleton.mp hy]
      intro z
      rw [z] at hx
      exact hk hx
  exact hQ (s.heap.update d (Obj.putName k (hashStr w k) (.str k s.toks) v)) D (Heap.SameBut.update ..)
theorem wp_fillK {d : Addr} {Q : PUnit → Shared → Prop} : ∀ (ex : List (Str × Value)) (kvs : List (Key × Value)) (s : Shared), s.heap.DictOf (mixKind prog w) d kvs → (ex.map (·.1)).Nodup → (∀ p ∈ ex, (Sum.inr p.1 : Key) ∉ kvs.map (·.1)) →
    (∀ h', h'.DictOf (mixKind prog w) d (kvs ++ ex.map fun p => ((Sum.inr p.1 : Key), p.2)) → Heap.SameBut d s.heap h' → Q ⟨⟩ { s with heap := h', toks := s.toks + ex.length }) →
    wpAny (model prog w) A (forIn ex PUnit.unit fun x _ => (nsSet d x.1 x.2 >>= fun _ => pure (ForInStep.yield PUnit.unit))) Q E s
  | [], kvs, s, hm, _, _, h => by
    rw [List.forIn_nil]
    exact wpAny_pure (h s.heap (by rw [List.map_nil, List.append_nil]; exact hm) (.refl ..))
  | x :: r, kvs, s, hm, hn, hk, h => by
    obtain ⟨n1, n2⟩ := List.nodup_cons.mp (show (x.1 :: r.map (·.1)).Nodup from hn)
    rw [List.forIn_cons]
    refine wpAny_bind (wpAny_bind (wp_nsSetK hm (hk x List.mem_cons_self) fun h1 hd sb => wpAny_pure ?_))
    refine wp_fillK r _ { s with heap := h1, toks := s.toks + 1 } hd n2 (fun p hp => ?_) fun h2 hd2 sb2 => ?_
    · rw [List.map_append]
      intro z
      rcases List.mem_append.mp z with z | z
      · exact hk p (List.mem_cons_of_mem _ hp) z
      · have e : p.1 = x.1 := Sum.inr.inj (List.mem_singleton.mp z)
        exact n1 (List.mem_map.mpr ⟨p, hp, e⟩)
    · have := h h2 (by rw [List.append_assoc] at hd2; exact hd2) (sb.trans sb2)
      simpa only [List.length_cons, Nat.add_assoc, Nat.add_comm 1] using this
/-- one parameter, and ** -/
theorem wp_bindKw {fd : FuncData} {x : Value} {kw : List (Str × Value)} {p0 p1 : Str} {a0 a1 : Arg} {Q : List (Str × Value) → Shared → Prop} (hp : fd.params = { posonlyargs := [], args := [a0], vararg := none, kwonlyargs := [], kw_defaults := [], kwarg := some a1, defaults := [] }) (hd : fd.defaults = .none)
    (e0 : a0.arg = p0) (e1 : a1.arg = p1) (hz : kw.length ≤ sizeLine) (hn : (kw.map (·.1)).Nodup) (hk : ∀ p ∈ kw, p.1 ≠ p0)
    (hQ : ∀ h', h'.DictOf (mixKind prog w) s.heap.objs.size (kw.map fun p => ((Sum.inr p.1 : Key), p.2)) → Heap.SameBut s.heap.objs.size (s.heap.push { cls := .type "dict", data := .dict #[] }) h' → Q [(p0, x), (p1, .ref s.heap.objs.size)] { s with heap := h', toks := s.toks + kw.length }) :
    wpAny (model prog w) A (bindArgs fd ⟨[x], kw⟩) Q E s := by
  unfold bindArgs
  rw [hp, hd]
  dsimp only
  refine wpAny_bind (wpAny_forIn_list _ (fun rest b s' => s = s' ∧ ∃ done, kw = done ++ rest ∧ b = ([(a0.arg, x)], done)) _ ?_ ?_ _ _ ⟨rfl, [], rfl, rfl⟩)
  · rintro p rest _ _ ⟨rfl, done, ek, rfl⟩
    have hp' : p.1 ≠ a0.arg := by rw [e0]; exact hk p (by rw [ek]; simp)
    rw [if_neg (by simp [hp']), if_pos (show (some a1).isSome = true from rfl)]
    exact wpAny_pure ⟨rfl, done ++ [p], by rw [ek]; simp, rfl⟩
  rintro _ _ ⟨rfl, done, ek, rfl⟩
  rw [List.append_nil] at ek
  subst ek
  have sq : seqItems? Value.none = pure none := rfl
  rw [sq]
  refine wpAny_bind (wpAny_pure ?_)
  rw [if_neg (by simp)]
  rw [if_neg (by simp)]
  refine wpAny_bind (wpAny_forIn_list _ (fun rest b s' => rest = [] ∧ b = [(a0.arg, x)] ∧ s = s') _ (by rintro _ _ _ _ ⟨h, _⟩; cases h) ?_ _ _ ⟨rfl, rfl, rfl⟩)
  rintro _ _ ⟨_, rfl, rfl⟩
  refine wpAny_bind (wpAny_forIn_list _ (fun rest b s' => rest = [] ∧ b = ([(a0.arg, x)], []) ∧ s = s') _ (by rintro _ _ _ _ ⟨h, _⟩; cases h) ?_ _ _ ⟨rfl, rfl, rfl⟩)
  rintro _ _ ⟨_, rfl, rfl⟩
  try dsimp only
  rw [if_neg (by simp)]
  try dsimp only
  rw [if_neg (by omega)]
  refine wpAny_bind (wpAny_alloc ?_)
  have emp : (s.heap.push { cls := .type "dict", data := .dict #[] }).DictOf (mixKind prog w) s.heap.objs.size [] :=
    ⟨_, #[], 0, Heap.get?_push_size _ rfl, ⟨rfl, rfl, rfl⟩, rfl, fun e he => by simp at he, .nil, List.nodup_nil⟩
  refine wpAny_bind (wp_fillK kw [] { s with heap := s.heap.push { cls := .type "dict", data := .dict #[] } } emp hn (fun _ _ z => nomatch z) fun h' hd' sb => wpAny_pure ?_)
  have z := hQ h' (by rw [List.nil_append] at hd'; exact hd') sb
  have fin : ∀ l : List (Str × Value), l = [(p0, x), (p1, Value.ref s.heap.objs.size)] → Q l { s with heap := h', toks := s.toks + kw.length } := fun l e => e ▸ z
  exact fin _ (by simp [e0, e1])
end
end L3
end
section
namespace L3
open PySem PySem.Spec PySem.Calls PyProof.Rows PySem.W L2
def kI {α : Type} (p : Str × α) : Key × α := (Sum.inr p.1, p.2)
theorem kI_keys {α : Type} (ws : List (Str × α)) : (ws.map kI).map (·.1) = (ws.map (·.1)).map Sum.inr := by rw [List.map_map, List.map_map]; rfl
theorem nodup_kI {α : Type} {ws : List (Str × α)} (h : ((ws.map kI).map (·.1)).Nodup) : (ws.map (·.1)).Nodup := by
  rw [kI_keys] at h
  exact (List.pairwise_map.mp h).imp fun h e => h (by rw [e])
theorem kv_back : ∀ {ws : List (Str × V)} {vs : List (Key × Value)}, KV (ws.map kI) vs → ∃ us : List (Str × Value), vs = us.map kI ∧ KV ws us
  | [], [], _ => ⟨[], rfl, .nil⟩
  | p :: r, q :: t, h => by
    cases h with
    | cons h1 h2 =>
      obtain ⟨us, e, k⟩ := kv_back h2
      refine ⟨(p.1, q.2) :: us, ?_, .cons ⟨rfl, h1.2⟩ k⟩
      rw [List.map_cons, ← e]
      exact congrArg (· :: t) (Prod.ext h1.1.symm rfl)
theorem kv_up {ws : List (Str × V)} {us : List (Str × Value)} (h : KV ws us) : KV (ws.map kI) (us.map kI) := by
  induction h with
  | nil => exact .nil
  | cons h _ ih => exact .cons ⟨congrArg Sum.inr h.1, h.2⟩ ih
section
variable {prog : Program} {w : World} {A : Around} {E : Value → Shared → Prop} {s : Shared}
theorem wp_keywordsIn {f : Value} {d : Addr} {us : List (Str × Value)} {Q : List (Str × Value) → Shared → Prop} (hm : s.heap.DictOf (mixKind prog w) d (us.map kI)) (h : Q us s) : wpAny (model prog w) A (keywordsIn f d) Q E s := by
  obtain ⟨o, es, ep, ho, hc, hd, hks, hp, hn⟩ := hm
  unfold keywordsIn
  refine wpAny_bind (wpAny_dictEntries ho hd ?_)
  refine wpAny_bind (PySem.MeetsSeq2.wpAny_forIn_array _ (fun rest b s' => s = s' ∧ ∃ todo : List (Str × Value), us = b ++ todo ∧ Pairs (mixKind prog w) rest (todo.map kI)) _ ?_ ?_ _ _ ⟨rfl, us, rfl, hp⟩)
  · rintro e rest b _ ⟨rfl, todo, eu, hq⟩
    match todo, hq with
    | p :: t, .cons hkey hval hr =>
      rcases keyIs_shape (show keyIs (Sum.inr p.1) e.key = true from hkey) with ⟨i, tk, e1, _⟩ | ⟨z, tk, e1, e2⟩
      · cases e1
      · cases (Sum.inr.inj e1)
        rw [e2]
        refine wpAny_pure ⟨rfl, t, ?_, hr⟩
        rw [show e.val = p.2 from hval, eu]
        simp
  · rintro b _ ⟨rfl, todo, eu, hq⟩
    match todo, hq with
    | [], _ =>
      rw [List.append_nil] at eu
      exact wpAny_pure (eu ▸ h)
end
section
variable {X : Cx} {pins : List (Addr × Obj)} {σ : L2.St} {H : Hp} {s : Shared}
/-- a name's value, a dict of texts, handed over by ** -/
theorem wp_evalDS {f : Value} {i : Nat} {x : Str} {p pos : Pos} {m : Addr} {ws : List (Str × V)} {Q : Args → Shared → Prop} (hN : X.N[i]? = some x) (hv : Vis X.env.scope x) (hdb : (x == ("__debug__" : Str)) = false) (hcd : (x == ("__classdict__" : Str)) = false)
    (I : Inv X pins σ H s) (hi : σ[i]? = some (some (.ref m))) (hm : H m = some (.dK (ws.map kI)))
    (k : ∀ (d : Addr) (us : List (Str × Value)) (s1 : Shared), H d = none → Inv X pins σ (upd H d (.dK (ws.map kI))) s1 → KV ws us → (us.map (·.1)).Nodup → ws.length ≤ sizeLine → Q ⟨[], us⟩ s1) :
    wpAny (model X.prog X.w) X.A (evalArgs f true [] [(none, do let v ← eval (.Name x p) X.env; standAt pos; pure v)]) Q X.xe s := by
  unfold evalArgs
  refine wpAny_bind ?_
  refine Calls.spliced_nil ?_
  refine wpAny_bind (wpAny_pure ?_)
  try dsimp only
  refine wpAny_holding ?_
  rw [if_neg (by simp)]
  refine wpAny_bind ?_
  unfold mergedKeywords
  refine wpAny_bind (wpAny_alloc ?_)
  refine wpAny_bind (wpAny_holding ?_)
  try dsimp only
  refine wpAny_bind ?_
  rw [List.forIn_cons]
  refine wpAny_bind ?_
  try dsimp only
  rw [if_pos (show ([] : List (Str × Sem Value)).isEmpty = true from rfl)]
  refine wpAny_bind (wpAny_pure ?_)
  have hn : H s.heap.objs.size = none := I.hok.fresh (Nat.le_refl _)
  have big := StX.env0_big I.env0
  have I1 : L2.Inv X pins σ (upd H s.heap.objs.size (.dK [])) { s with heap := s.heap.push { cls := .type "dict", data := .dict #[] } } := I.laid (t' := s.toks) (fun b o e => Heap.get?_push_of_some _ e) (Nat.le_refl _) (dk_empty _ big)
  generalize hd : s.heap.objs.size = d at *
  refine wpAny_bind (wpAny_bind (thn ((pe_var (pos := p) hN hv hdb hcd).run pins _ σ _ (fun v H1 => v = .ref m ∧ H1 = upd H d (.dK [])) I1 ⟨.ref m, hi, rfl, rfl⟩) fun u s1 ⟨v, H1, I2, r1, e1, e2⟩ => ?_))
  subst e1 e2
  obtain rfl : u = Value.ref m := r1
  refine wpAny_bind (wpAny_standAt (wpAny_pure ?_))
  have nmd : d ≠ m := fun z => by rw [z, hm] at hn; cases hn
  have hm1 : upd H d (.dK []) m = some (.dK (ws.map kI)) := by rw [upd_ne (Ne.symm nmd)]; exact hm
  obtain ⟨zl, hsm, vs, rel, dd⟩ := dk_of I2.hok hm1
  obtain ⟨us, rfl, ku⟩ := kv_back rel
  obtain ⟨_, hsd, vs0, rel0, dd0⟩ := dk_of I2.hok (show upd H d (.dK []) d = some (.dK []) from upd_same)
  cases rel0
  have nd : ((us.map kI).map (·.1)).Nodup := dd.choose_spec.choose_spec.choose_spec.2.2.2.2.2
  have lus : us.length = ws.length := by rw [← ku.length]
  rw [List.length_map] at zl
  refine wpAny_bind (wpAny_onRaise (wpAny_holding (wpAny_tryCatch (wpAny_onRaise (wp_merge (knd := mixKind X.prog X.w) (kvs := []) (ms := us.map kI) nmd hsm (fun k v hk a e => ?_) dd0 dd (by rw [List.length_map, lus]; simpa using zl) (fun _ p _ => by simp) fun h' hd' sb => ?_)))))
  · rcases keyIs_shape hk with ⟨i, t, _, e2⟩ | ⟨x, t, _, e2⟩ <;> (rw [e2] at e; cases e)
  rw [merged_nil_of_nodup _ nd] at hd'
  have I3 : L2.Inv X pins σ (upd (upd H d (.dK [])) d (.dK (ws.map kI))) { s1 with heap := h' } := d_write (t' := s1.toks) I2 (by rw [upd_same]; exact True.intro) sb (let ⟨o, _, _, ho, _⟩ := hd'; ⟨o, ho⟩) (dk_new (by rw [List.length_map]; exact zl) hsd (kv_up ku) hd')
  rw [upd_upd] at I3
  have fin := k d us _ hn I3 ku (nodup_kI nd) zl
  refine wpAny_pure ?_
  try dsimp only
  rw [List.forIn_nil]
  refine wpAny_pure ?_
  try dsimp only
  rw [if_pos (show ([] : List (Str × Sem Value)).isEmpty = true from rfl)]
  refine wpAny_bind (wpAny_pure ?_)
  refine wpAny_pure ?_
  refine wpAny_pure ?_
  refine wpAny_bind (wpAny_pure ?_)
  refine wpAny_bind (wpAny_holding (wp_keywordsIn hd' ?_))
  exact wpAny_pure fin
/-- f(**x), f a class or def of the module -/
theorem wp_callDS {K : PySem.W.Frag} {f : Value} {first : List Value} {pos : Pos} {x : Sem Value} {Q : Value → Shared → Prop} {M : Model} {A : Around} {E : Value → Shared → Prop} {s : Shared} (hk : PySem.W.keepIn K f = true)
    (h : wpAny M A (evalArgs f true [] [(none, x)]) (fun a s1 => K.In s1.heap ∧ wpAny M A (call f (first ++ a.pos) a.kw) Q E s1) E s) : wpAny M A (callWith pos f first [] [(none, x)]) Q E s := by
  unfold callWith
  refine wpAny_bind (wpAny_holding (wpAny_mono h (fun a s1 ⟨h1, h2⟩ => wpAny_bind (wpAny_standAt ?_)) fun _ _ z => z))
  obtain ⟨k, hk', L⟩ := PySem.W.keeps_K hk _ h1
  dsimp only
  rw [show (([] : List (Bool × Sem Value)).any (·.1) || [((none : Option Str), x)].any (·.1.isNone)) = true from rfl]
  refine wpAny_bind (L.here ?_)
  have z : wpAny M A (callMarked starredCall f (first ++ a.pos) a.kw) Q E s1 := by unfold callMarked; exact Calls.wpAny_keep h2
  have last : ∀ {t : Sem Value}, wpAny M A t Q E s1 → wpAny M A (t >>= fun r => holding [r] point >>= fun _ => pure r) Q E s1 := fun ht => wpAny_bind (wpAny_mono ht (fun r s2 hr => wpAny_bind (wpAny_holding (wpAny_point (wpAny_pure hr)))) fun _ _ y => y)
  rcases hk' with rfl | rfl | rfl
  · exact last z
  · exact last (wpAny_operateT h2)
  · exact last (wpAny_operateT h2)
end
structure FnKw (P : Program) (w : World) (K : PySem.W.Frag) (mg : Str → Option Value) (base : Heap) (CX : CXT) (k : Nat) (f : Addr) (p0 : Str) (sp : Sp) : Prop where
  run : ∀ (A : Around) (outer : List Env) (s : Shared) (H : Hp) (x : V) (u : Value) (ws : List (Str × V)) (us : List (Str × Value)) (Q : VK) (E : XK), Room k A → Env0 P w K mg base A outer s H → RelV x u → KV ws us → (us.map (·.1)).Nodup → ws.length ≤ sizeLine → (∀ p ∈ ws, p.1 ≠ p0) →
    (∀ d, H d = none → sp [x, .ref d] (upd H d (.dK (ws.map kI))) Q E) → codeAny (model P w) A (.call (.ref f) ⟨[u], us⟩) (CR CX outer P w H s Q E) s
theorem env0_new {P : Program} {w : World} {K : PySem.W.Frag} {mg : Str → Option Value} {base : Heap} {A : Around} {outer : List Env} {s : Shared} {H : Hp} {a : Addr} {h' : Heap} {t' : Nat} {u : HO} (en : Env0 P w K mg base A outer s H) (kp : ∀ b x, s.heap.get? b = some x → h'.get? b = some x) (ha : s.heap.objs.size ≤ a) (hz : s.heap.objs.size ≤ h'.objs.size) (new : ObjOk P w (upd H a u) h' a u) :
    Env0 P w K mg base A outer { s with heap := h', toks := t' } (upd H a u) where
  frames := en.frames
  mod := en.mod
  bs := fun b x e => ⟨kp b x (en.bs b x e).1, by rw [upd_ne (Nat.ne_of_lt (Nat.lt_of_lt_of_le (Heap.lt_size (en.bs b x e).1) ha))]; exact (en.bs b x e).2⟩
  bsz := Nat.le_trans en.bsz hz
  funs := Heap.FunFrames.of_keeps (fun b x e _ => ⟨x, kp b x e, rfl⟩) en.funs
  frf := fun b hb => by
    obtain ⟨_, x, hx, _⟩ := en.funs.mem hb
    rw [upd_ne (Nat.ne_of_lt (Nat.lt_of_lt_of_le (Heap.lt_size hx) ha))]
    exact en.frf b hb
  hok := en.hok.laid kp ha new
  bare := en.bare
theorem kv_names {ws : List (Str × V)} {us : List (Str × Value)} (h : KV ws us) : ws.map (·.1) = us.map (·.1) := by
  induction h with
  | nil => rfl
  | cons h _ ih => rw [List.map_cons, List.map_cons, ih, h.1]
theorem fnKw {P : Program} {w : World} {K : PySem.W.Frag} {mg : Str → Option Value} {base : Heap} {CX : CXT} {x qual : Str} {st : Stmt} {f : Addr} {fd : FuncData} {N : List Str} {p0 p1 : Str} {a0 a1 : Arg} {k : Nat} {sp : Sp} (F : L2.Fun K x qual st f fd) (S : FnScope N [p0, p1] (defScope st)) (hCX : StX.CXUp CX)
    (hp : defArgs st = { posonlyargs := [], args := [a0], vararg := none, kwonlyargs := [], kw_defaults := [], kwarg := some a1, defaults := [] }) (e0 : a0.arg = p0) (e1 : a1.arg = p1)
    (body : ∀ (cd : Value) (A : Around) (fr : List Env) (s : Shared) (H : Hp) (vs : List V) (Q : VK) (E : XK), Room k (A.deeper (envOfC qual (defScope st) s.heap.objs.size f cd)) → sp vs H Q E →
      ∃ t, PSs (cxOf CX P w K mg base N qual (defScope st) f cd A fr s H E) (defBody st) t ∧ t { nx := fun _ H' => Q .non H', rt := Q } (L2.start N vs) H) : FnKw P w K mg base CX (k + 1) f p0 sp := by
  obtain ⟨oc, od, kV, doc, pm, an, cd, ct, sl, rfl, lk, hcd⟩ := F.ex
  refine ⟨fun A outer s H x u ws us Q E hr en rx ku hn hz hk hsp => ?_⟩
  have hn0 : H s.heap.objs.size = none := en.hok.fresh (Nat.le_refl _)
  have lu : us.length = ws.length := ku.length.symm
  refine StX.run_bnd lk hcd S hr en (G := fun vs H2 => ∃ d, H d = none ∧ vs = [x, .ref d] ∧ H2 = upd H d (.dK (ws.map kI))) (fun A' Ex Q' h => ?_) fun s2 H2 vs ⟨d, hd, ev, eH⟩ hr' => ?_
  · refine wp_bindKw (p0 := p0) (p1 := p1) hp rfl e0 e1 (by rw [lu]; exact hz) hn (fun p hp => ?_) fun h' hd' sb => ?_
    · have : p.1 ∈ ws.map (·.1) := by rw [kv_names ku]; exact List.mem_map_of_mem hp
      obtain ⟨q, hq, e⟩ := List.mem_map.mp this
      rw [← e]
      exact hk q hq
    · have kp : ∀ b o, s.heap.get? b = some o → h'.get? b = some o := fun b o e => (sb.2 b (Nat.ne_of_lt (Heap.lt_size e))).trans (Heap.get?_push_of_some _ e)
      have un : Un (frs outer) [] H (upd H s.heap.objs.size (.dK (ws.map kI))) s.heap h' := Un.laid kp (Nat.le_refl _) hn0
      have z := h { s with heap := h', toks := s.toks + us.length } (upd H s.heap.objs.size (.dK (ws.map kI))) [x, .ref s.heap.objs.size] [u, .ref s.heap.objs.size] (env0_new en kp (Nat.le_refl _) ?_ ?_) un rfl (fun e s' => hCX outer s H _ _ E e s' un kp rfl) (.cons rx (.cons rfl .nil)) rfl ⟨_, hn0, rfl, rfl⟩
      · exact z
      · have : (s.heap.push { cls := .type "dict", data := .dict #[] }).objs.size = s.heap.objs.size + 1 := Heap.size_push _ _
        have := sb.1
        omega
      · exact dk_new (by rw [List.length_map]; exact hz) (beq_eq_false_iff_ne.mpr (Ne.symm (Nat.ne_of_lt (StX.env0_big en)))) (kv_up ku) hd'
  · subst ev eH
    exact body cd A outer s2 _ _ Q E hr' (hsp d hd)
structure McKw (P : Program) (w : World) (K : PySem.W.Frag) (mg : Str → Option Value) (base : Heap) (CX : CXT) (k : Nat) (x : Str) (C : Addr) (p0 : Str) (sp : Sp) : Prop where
  ex : ∃ f, FnKw P w K mg base CX k f p0 sp ∧ mg x = some (.ref C) ∧ Mk K C f
/-- what the making asks: the instance, its dict, the dict of the given ones -/
def MkKw (C : Addr) (sp : Sp) (E : XK) (ws : List (Str × V)) (H : Hp) (Q : VK) : Prop := ∀ x dx d, H x = none → H dx = none → dx ≠ x → H d = none → d ≠ x → d ≠ dx →
  sp [.ref x, .ref d] (upd (upd (upd H dx (.own x)) x (.ins C dx [])) d (.dK (ws.map kI))) (fun v H2 => v = .non ∧ ap Q (.ref x) H2) E
theorem none_upd2 {H : Hp} {a b d : Addr} {o o' : HO} (h : upd (upd H b o) a o' d = none) : H d = none ∧ d ≠ a ∧ d ≠ b := by
  have h1 : d ≠ a := fun z => by rw [z, upd_same] at h; cases h
  rw [upd_ne h1] at h
  have h2 : d ≠ b := fun z => by rw [z, upd_same] at h; cases h
  rw [upd_ne h2] at h
  exact ⟨h, h1, h2⟩
section
variable {X : Cx} {CX : CXT} {k j : Nat} {C : Addr} {p0 : Str} {sp : Sp} {E : XK} {x : Str} {p pos : Pos} {ks : TA} {kws : List Keyword}
theorem run_mkKw {pins : List (Addr × Obj)} {σ : L2.St} {H : Hp} {s : Shared} {Q : VK} {f : Addr} {ws : List (Str × V)} {us : List (Str × Value)} (M : Mk X.K C f) (F : FnKw X.prog X.w X.K X.mg X.base CX k f p0 sp) (hr : Room (k + 1) X.A) (hx : Passes CX X E) (I : L2.Inv X pins σ H s)
    (ku : KV ws us) (hn : (us.map (·.1)).Nodup) (hz : ws.length ≤ sizeLine) (hk : ∀ p ∈ ws, p.1 ≠ p0) (q : MkKw C sp E ws H Q) : wpAny (model X.prog X.w) X.A (call (.ref C) [] us) (EP X pins σ Q) X.xe s := by
  have I2 := Inv.made (C := C) I
  have n1 : H (s.heap.objs.size + 1) = none := I.hok.fresh (Nat.le_succ _)
  have n2 : H s.heap.objs.size = none := I.hok.fresh (Nat.le_refl _)
  refine wpAny_call (make_map (f := f) I.kIn M.makes M.init (beq_iff_eq.mp M.fn) (codeAny_mono (F.run _ X.stack _ _ (.ref (s.heap.objs.size + 1)) (.ref (s.heap.objs.size + 1)) ws us _ E (hr.make C [] us) (I2.env0.make C [] us) rfl ku hn hz hk fun d hd => q _ _ d n1 n2 (Nat.ne_of_lt (Nat.lt_succ_self _)) (none_upd2 hd).1 (none_upd2 hd).2.1 (none_upd2 hd).2.2) fun y s' z => ?_))
  match y, z with
  | .error e, z => exact hx pins σ _ _ e s' I2 z
  | .ok (.ret u), z =>
    obtain ⟨v, H', I3, rv, ev, q3⟩ := I2.after z
    subst ev
    exact ⟨rv, ⟨V.ref (s.heap.objs.size + 1), H', I3, rfl, q3⟩⟩
def tMkKV (C : Addr) (ns : List Str) (sp : Sp) (E : XK) (ks : TA) : TE := fun σ H Q => ks σ H fun vs H1 => MkKw C sp E (ns.zip vs) H1 Q
def tMkDS (C : Addr) (i : Nat) (p0 : Str) (sp : Sp) (E : XK) : TE := fun σ H Q => ∃ m ws, σ[i]? = some (some (.ref m)) ∧ H m = some (.dK (ws.map kI)) ∧ (∀ p ∈ ws, p.1 ≠ p0) ∧ ∀ H1, Ex H H1 → MkKw C sp E ws H1 Q
/-- C(**y), y a slot -/
theorem pe_mkDS {i : Nat} {y : Str} {py : Pos} (c : McKw X.prog X.w X.K X.mg X.base CX k x C p0 sp) (hr : Room j X.A) (hx : Passes CX X E) (hN : X.N[i]? = some y) (hv : Vis X.env.scope y) (hk : k + 1 ≤ j := by decide) (gl : Gl X x := by rfl) (hdb : (x == ("__debug__" : Str)) = false := by decide)
    (hdy : (y == ("__debug__" : Str)) = false := by decide) (hcd : (y == ("__classdict__" : Str)) = false := by decide) {kp : Pos} (hkw : keywordEach [⟨none, .Name y py, kp⟩] X.env = [(none, eval (.Name y py) X.env)] := by rfl) : PE X (.Call (.Name x p) [] [⟨none, .Name y py, kp⟩] pos) (tMkDS C i p0 sp E) := by
  obtain ⟨f, F, m, M⟩ := c.ex
  refine ⟨fun pins s σ H Q I ⟨a, ws, hi, hm, hk0, q⟩ => ?_⟩
  refine wpAny_Call_Name_kw (ld_glob I gl m ?_ hdb)
  rw [hkw]
  refine wp_callDS (K := X.K) M.kp (wp_evalDS hN hv hdy hcd I hi hm fun d us s1 hd I1 ku nd zl => ⟨I1.kIn, ?_⟩)
  exact run_mkKw M F (hr.mono hk) hx I1 ku nd zl hk0 (q _ (ex_new hd))
end
end L3
end
section
namespace L3
open PySem PySem.Spec PySem.Calls PyProof.Rows PySem.W L2
end L3
end
section
namespace L3
open PySem PySem.NumText PySem.Spec PyProof.Rows L2 LamX RZ ClX
def ltS (a b : Str) : Bool := ltCps a.cps.toList b.cps.toList
def leS (a b : Str) : Bool := !ltS b a
theorem ltS_eq (a b : Str) : ltS a b = decide (a.cps.toList < b.cps.toList) := ltCps_eq ..
theorem leS_total (a b : Str) : leS a b = true ∨ leS b a = true := by
  unfold leS
  rw [ltS_eq, ltS_eq]
  by_cases h : b.cps.toList < a.cps.toList
  · exact .inr (by rw [decide_eq_false (List.lt_asymm h)]; rfl)
  · exact .inl (by rw [decide_eq_false h]; rfl)
theorem leS_antisymm {a b : Str} (h1 : leS a b = true) (h2 : leS b a = true) : a = b := by
  unfold leS at h1 h2
  rw [ltS_eq] at h1 h2
  have e : a.cps.toList = b.cps.toList := List.le_antisymm (by simpa using h1) (by simpa using h2)
  cases a with | mk a => cases b with | mk b =>
  congr 1
  exact Array.toList_inj.mp e
theorem leS_trans {a b c : Str} (h1 : leS a b = true) (h2 : leS b c = true) : leS a c = true := by
  unfold leS at h1 h2 ⊢
  rw [ltS_eq] at h1 h2 ⊢
  have k1 : a.cps.toList ≤ b.cps.toList := by simpa using h1
  have k2 : b.cps.toList ≤ c.cps.toList := by simpa using h2
  simpa using List.le_trans k1 k2
theorem risingS_pw : ∀ (p : Str) (l : List Str), risingS p l = true → (p :: l).Pairwise (fun a b => leS a b = true)
  | p, [], _ => by simp
  | p, x :: r, h => by
    have h' : (!ltS x p && risingS x r) = true := h
    rw [Bool.and_eq_true] at h'
    have ih := risingS_pw x r h'.2
    refine List.pairwise_cons.mpr ⟨fun y hy => ?_, ih⟩
    rcases List.mem_cons.mp hy with rfl | hy
    · exact h'.1
    · exact leS_trans (a := p) (b := x) h'.1 (List.rel_of_pairwise_cons ih hy)
theorem sortedS_pw : ∀ {l : List Str}, sortedS l = true → l.Pairwise (fun a b => leS a b = true)
  | [], _ => .nil
  | x :: r, h => risingS_pw x r h
section
variable {α : Type}
def insW (p : Str × α) : List (Str × α) → List (Str × α)
  | [] => [p]
  | q :: r => if ltS q.1 p.1 then q :: insW p r else p :: q :: r
def srtW : List (Str × α) → List (Str × α)
  | [] => []
  | p :: r => insW p (srtW r)
theorem insW_perm (p : Str × α) : ∀ l : List (Str × α), (insW p l).Perm (p :: l)
  | [] => .refl _
  | q :: r => by
    unfold insW
    by_cases h : ltS q.1 p.1 = true
    · rw [if_pos h]
      exact ((insW_perm p r).cons q).trans (.swap p q r)
    · rw [if_neg h]
theorem srtW_perm : ∀ l : List (Str × α), (srtW l).Perm l
  | [] => .refl _
  | p :: r => (insW_perm p (srtW r)).trans ((srtW_perm r).cons p)
def SrtW (l : List (Str × α)) : Prop := (l.map (·.1)).Pairwise (fun a b => leS a b = true)
theorem insW_srt {p : Str × α} : ∀ {l : List (Str × α)}, SrtW l → SrtW (insW p l)
  | [], _ => by unfold insW SrtW; simp
  | q :: r, h => by
    have h' : (∀ x ∈ r.map (·.1), leS q.1 x = true) ∧ (r.map (·.1)).Pairwise (fun a b => leS a b = true) := List.pairwise_cons.mp h
    unfold insW
    by_cases c : ltS q.1 p.1 = true
    · rw [if_pos c]
      refine List.pairwise_cons.mpr ⟨fun x hx => ?_, insW_srt h'.2⟩
      have hx' := ((insW_perm p r).map (·.1)).mem_iff.mp hx
      rcases List.mem_cons.mp hx' with rfl | hx'
      · rcases leS_total q.1 p.1 with k | k
        · exact k
        · unfold leS at k; rw [c] at k; cases k
      · exact h'.1 x hx'
    · rw [if_neg c]
      have hpq : leS p.1 q.1 = true := by unfold leS; simpa using c
      refine List.pairwise_cons.mpr ⟨fun x hx => ?_, h⟩
      rcases List.mem_cons.mp hx with rfl | hx
      · exact hpq
      · exact leS_trans hpq (h'.1 x hx)
theorem srtW_srt : ∀ l : List (Str × α), SrtW (srtW l)
  | [] => .nil
  | _ :: r => insW_srt (srtW_srt r)
theorem srtW_len (l : List (Str × α)) : (srtW l).length = l.length := (srtW_perm l).length_eq
theorem srtW_mem {l : List (Str × α)} {p : Str × α} : p ∈ srtW l ↔ p ∈ l := (srtW_perm l).mem_iff
/-- the one order of texts: what sorted gives for the names is what srtW gives -/
theorem names_srt {l : List (Str × α)} {ys : List Str} (hp : ys.Perm (l.map (·.1))) (hs : sortedS ys = true) : ys = (srtW l).map (·.1) :=
  List.Perm.eq_of_pairwise (le := fun a b => leS a b = true) (fun _ _ _ _ h1 h2 => leS_antisymm h1 h2) (sortedS_pw hs) (srtW_srt l) (hp.trans ((srtW_perm l).map (·.1)).symm)
end
section
variable {K : PySem.W.Frag} {σ : L2.St} {H : Hp} {Q : VK}
/-- sorted([..]) of texts -/
theorem s_sortS {α : Type} {a : Addr} {l : List (Str × α)} (ha : H a = some (.lst ((l.map (·.1)).map V.str))) (hz : l.length < 64) (k : ∀ p H2, H p = none → Ex H H2 → H2 p = some (.lst (((srtW l).map (·.1)).map V.str)) → Q (.ref p) H2) : rSortedS K [.ref a] H Q :=
  ⟨a, l.map (·.1), rfl, .inl (.inl ha), by rw [List.length_map]; exact hz, fun ys p hp hs hn => by rw [names_srt hp hs]; exact k p _ hn (ex_new hn) upd_same⟩
theorem s_lock {d : Addr} {kvs : List (Key × V)} {t : TE} (hd : H d = some (.dK kvs)) (h : ∀ od, t σ (upd H d (.frz od (.dK kvs))) fun v H' => H' d = some (.frz od (.dK kvs)) ∧ Q v (upd H' d (.dK kvs))) : tLockE t σ H Q := ⟨d, _, hd, trivial, h⟩
theorem lcK {te : TE} {d : Addr} {o : Obj} {kvs : List (Key × V)} {j : Nat} {tt : TT} {vs : List Nat} (b : Key → V → Bool) (f : Key → V → V) (hd : H d = some (.frz o (.dK kvs))) (hz : kvs.length < sizeLine) (hw : ∀ x, wipe ((wipe σ vs).set j (some x)) vs = wipe σ vs)
    (ht : ∀ (kk : Key) (v : V) (H1 : Hp) (R : Bool → Hp → Prop), (kk, v) ∈ kvs → Ex H H1 → R (b kk v) H1 → tt ((wipe σ vs).set j (some (kV kk))) H1 R) (he : ∀ (kk : Key) (v : V) (H1 : Hp) (R : VK), (kk, v) ∈ kvs → b kk v = true → Ex H H1 → (∀ H2, Ex H1 H2 → R (f kk v) H2) → te ((wipe σ vs).set j (some (kV kk))) H1 R)
    (k : ∀ D H2, H D = none → Ex H H2 → H2 D = some (.lst ((kvs.filter fun p => b p.1 p.2).map fun p => f p.1 p.2)) → Q (.ref D) H2) : LC (Itk d o kvs) (gName j) tt te vs σ H Q := by
  intro D hD
  refine lc_it walk_keys (fun i H1 => Ex H H1 ∧ H1 D = some (.lst (((kvs.take i).filter fun p => b p.1 p.2).map fun p => f p.1 p.2))) ⟨ex_new hD, by rw [upd_same]; rfl⟩ (fun _ H1 _ p => p.1 _ _ hd) ?_ ?_
  · rintro i x H1 H2 hi ⟨e1, e2⟩ ⟨rfl, kk, v, hkv, rfl⟩
    have hm := List.mem_of_getElem? hkv
    have htk : kvs.take (i + 1) = kvs.take i ++ [(kk, v)] := by rw [List.take_add_one, hkv]; rfl
    show wipe _ vs = wipe σ vs ∧ _
    refine ⟨hw _, ht kk v H2 _ hm e1 ?_⟩
    cases hb : b kk v with
    | true =>
      refine iteT (he kk v H2 _ hm hb e1 fun H3 e3 => ⟨_, e3 _ _ e2, ?_, fun c oo hc => ?_, ?_⟩)
      · rw [List.length_map]
        exact Nat.lt_of_le_of_lt (Nat.le_trans (List.length_filter_le _ _) (List.length_take_le ..)) (Nat.lt_of_lt_of_le (by omega) (Nat.le_of_lt hz))
      · rw [upd_ne (ne_of_none hc hD)]; exact e3 _ _ (e1 _ _ hc)
      · rw [upd_same, htk, List.filter_append, List.map_append]
        simp [hb]
    | false =>
      refine iteF ⟨e1, ?_⟩
      rw [htk, List.filter_append]
      simpa [hb] using e2
  · rintro H1 ⟨e1, e2⟩
    rw [List.take_length] at e2
    exact k _ _ hD e1 e2
theorem ex_unlock {d : Addr} {od : Obj} {u : HO} {H2 : Hp} (hd : H d = some u) (e : Ex (upd H d (.frz od u)) H2) : Ex H (upd H2 d u) := fun c o hc => by
  by_cases h : c = d
  · rw [h, upd_same]; rw [h, hd] at hc; exact hc
  · rw [upd_ne h]; exact e c o (by rw [upd_ne h]; exact hc)
/-- [f(k) for k in d if b(k)], whole -/
theorem s_lcK {ta te : TE} {d : Addr} {kvs : List (Key × V)} {j : Nat} {tt : TT} {vs : List Nat} (b : Key → V → Bool) (f : Key → V → V) (hd : H d = some (.dK kvs)) (hz : kvs.length < sizeLine) (hw : ∀ x, wipe ((wipe σ vs).set j (some x)) vs = wipe σ vs)
    (ha : ∀ od (R : VK), R (.ref d) (upd H d (.frz od (.dK kvs))) → ta σ (upd H d (.frz od (.dK kvs))) R)
    (ht : ∀ (kk : Key) (v : V) (H1 : Hp) (R : Bool → Hp → Prop), (kk, v) ∈ kvs → (∃ od, H1 d = some (.frz od (.dK kvs))) → (∀ c o, c ≠ d → H c = some o → H1 c = some o) → R (b kk v) H1 → tt ((wipe σ vs).set j (some (kV kk))) H1 R)
    (he : ∀ (kk : Key) (v : V) (H1 : Hp) (R : VK), (kk, v) ∈ kvs → b kk v = true → (∃ od, H1 d = some (.frz od (.dK kvs))) → (∀ c o, c ≠ d → H c = some o → H1 c = some o) → (∀ H2, Ex H1 H2 → R (f kk v) H2) → te ((wipe σ vs).set j (some (kV kk))) H1 R)
    (k : ∀ D H2, H D = none → Ex H H2 → H2 D = some (.lst ((kvs.filter fun p => b p.1 p.2).map fun p => f p.1 p.2)) → Q (.ref D) H2) : tLockE (tLc (iKeys ta) (gName j) tt te vs) σ H Q := by
  refine s_lock hd fun od => ?_
  show ta σ _ _
  refine ha od _ ⟨d, od, rfl, .inl ⟨kvs, upd_same, ?_⟩⟩
  show LC (Itk d od kvs) (gName j) tt te vs σ (upd H d (.frz od (.dK kvs))) fun v H' => H' d = some (.frz od (.dK kvs)) ∧ Q v (upd H' d (.dK kvs))
  have hk : ∀ H1, Ex (upd H d (.frz od (.dK kvs))) H1 → (∃ od, H1 d = some (.frz od (.dK kvs))) ∧ ∀ c o, c ≠ d → H c = some o → H1 c = some o := fun H1 e => ⟨⟨od, e _ _ upd_same⟩, fun c o hc h => e _ _ (by rw [upd_ne hc]; exact h)⟩
  exact lcK b f upd_same hz hw (fun kk v H1 R hm e r => ht kk v H1 R hm (hk H1 e).1 (hk H1 e).2 r) (fun kk v H1 R hm hb e r => he kk v H1 R hm hb (hk H1 e).1 (hk H1 e).2 r) fun D H2 hD e h2 => by
    have hDd : D ≠ d := fun z => by rw [z, upd_same] at hD; cases hD
    exact ⟨e _ _ upd_same, k D _ (by rw [upd_ne hDd] at hD; exact hD) (ex_unlock hd e) (by rw [upd_ne hDd]; exact h2)⟩
def DC (J : It) (g : TG) (tt : TT) (tk tv : TE) (vs : List Nat) (σ : L2.St) (H1 : Hp) (Q : VK) : Prop := ∀ D, H1 D = none → ∃ W : Nat → Nat → Hp → Prop, (∃ m, W 0 m (upd H1 D (.dK []))) ∧ ∀ i m H, W i m H →
  (J.stop i H ∧ Q (.ref D) H) ∨ (J.go i H ∧ ∃ Nx : Hp → Prop, (∀ H', Nx H' → ∃ m', m' < m ∧ W (i + 1) m' H') ∧ ∀ x H', J.yld i H x H' → g x (wipe σ vs) H' fun σ2 H2 => wipe σ2 vs = wipe σ vs ∧ tt σ2 H2 fun b H3 =>
    if b = true then tk σ2 H3 fun y H4 => tv σ2 H4 fun z H5 => ∃ kvs k, y = kV k ∧ H5 D = some (.dK kvs) ∧ kvs.length < sizeLine ∧ Nx (upd H5 D (.dK (putK kvs k z))) else Nx H3)
theorem s_dcL {ta tk tv : TE} {g : TG} {tt : TT} {vs : List Nat} (h : ta σ H fun x H1 => ∃ a, x = .ref a ∧ (∃ xs, SqL K H1 a xs) ∧ DC (Itl K a) g tt tk tv vs σ H1 Q) : tDc (iList K ta) g tt tk tv vs σ H Q := h
theorem s_dcT {ta tk tv : TE} {g : TG} {tt : TT} {vs : List Nat} (h : ta σ H fun x H1 => ∃ a, x = .ref a ∧ (∃ xs, SqT K H1 a xs) ∧ DC (Itt K a) g tt tk tv vs σ H1 Q) : tDc (iTup K ta) g tt tk tv vs σ H Q := h
/-- a dict comprehension over a walk -/
theorem dc_it {J : It} {n : Nat} {G : Hp → Prop} {Y : Nat → Hp → V → Hp → Prop} (w : Walk J n G Y) {g : TG} {tt : TT} {tk tv : TE} {vs : List Nat} {H1 : Hp} {D : Addr} {Qd : Hp → Prop} (Pv : Nat → Hp → Prop) (h0 : Pv 0 (upd H1 D (.dK []))) (hG : ∀ i H, i ≤ n → Pv i H → G H)
    (hs : ∀ i x H H', i < n → Pv i H → Y i H x H' → g x (wipe σ vs) H' fun σ2 H2 => wipe σ2 vs = wipe σ vs ∧ tt σ2 H2 fun b H3 =>
      if b = true then tk σ2 H3 fun y H4 => tv σ2 H4 fun z H5 => ∃ kvs k, y = kV k ∧ H5 D = some (.dK kvs) ∧ kvs.length < sizeLine ∧ Pv (i + 1) (upd H5 D (.dK (putK kvs k z))) else Pv (i + 1) H3) (hd : ∀ H, Pv n H → Qd H) :
    ∃ W : Nat → Nat → Hp → Prop, (∃ m, W 0 m (upd H1 D (.dK []))) ∧ ∀ i m H, W i m H →
      (J.stop i H ∧ Qd H) ∨ (J.go i H ∧ ∃ Nx : Hp → Prop, (∀ H', Nx H' → ∃ m', m' < m ∧ W (i + 1) m' H') ∧ ∀ x H', J.yld i H x H' → g x (wipe σ vs) H' fun σ2 H2 => wipe σ2 vs = wipe σ vs ∧ tt σ2 H2 fun b H3 =>
        if b = true then tk σ2 H3 fun y H4 => tv σ2 H4 fun z H5 => ∃ kvs k, y = kV k ∧ H5 D = some (.dK kvs) ∧ kvs.length < sizeLine ∧ Nx (upd H5 D (.dK (putK kvs k z))) else Nx H3) := by
  refine ⟨fun i m H => m = n - i ∧ i ≤ n ∧ Pv i H, ⟨n, by simp, Nat.zero_le _, h0⟩, ?_⟩
  rintro i m H ⟨rfl, hi, p⟩
  have q := hG i H hi p
  by_cases hlt : i < n
  · exact .inr ⟨w.goes i H hlt q, Pv (i + 1), fun H' p' => ⟨n - (i + 1), by omega, rfl, hlt, p'⟩, fun x H' y => hs i x H H' hlt p (w.yields i H x H' hlt q y)⟩
  · have e : i = n := by omega
    subst e
    exact .inl ⟨w.stops H q, hd H p⟩
/-- over names that are all unlike: the dict of them, in their order; each value may be told with its heap -/
theorem dcN {J : It} {ns : List Str} {G : Hp → Prop} (w : Walk J ns.length G (YAt (ns.map V.str))) (hG : ∀ H1, Ex H H1 → G H1) {j : Nat} {tt : TT} {tk tv : TE} {vs : List Nat} (b : Str → Bool) (f : Str → V) (hnd : ns.Nodup) (hz : ns.length < sizeLine) (hw : ∀ x, wipe ((wipe σ vs).set j (some x)) vs = wipe σ vs)
    (ht : ∀ (n : Str) (H1 : Hp) (R : Bool → Hp → Prop), n ∈ ns → Ex H H1 → R (b n) H1 → tt ((wipe σ vs).set j (some (.str n))) H1 R)
    (hk : ∀ (n : Str) (H1 : Hp) (R : VK), n ∈ ns → R (.str n) H1 → tk ((wipe σ vs).set j (some (.str n))) H1 R)
    (hv : ∀ (n : Str) (H1 : Hp) (R : VK), n ∈ ns → b n = true → Ex H H1 → (∀ H2, Ex H1 H2 → R (f n) H2) → tv ((wipe σ vs).set j (some (.str n))) H1 R)
    (k : ∀ D H2, H D = none → Ex H H2 → H2 D = some (.dK ((ns.filter b).map fun n => ((Sum.inr n : Key), f n))) → Q (.ref D) H2) : DC J (gName j) tt tk tv vs σ H Q := by
  intro D hD
  refine dc_it w (fun i H1 => Ex H H1 ∧ H1 D = some (.dK (((ns.take i).filter b).map fun n => ((Sum.inr n : Key), f n)))) ⟨ex_new hD, by rw [upd_same]; rfl⟩ (fun _ H1 _ p => hG H1 p.1) ?_ ?_
  · rintro i x H1 H2 hi ⟨e1, e2⟩ ⟨rfl, hx⟩
    obtain ⟨n, hn, rfl⟩ : ∃ n, ns[i]? = some n ∧ x = V.str n := by
      rw [List.getElem?_map] at hx
      cases h : ns[i]? with
      | none => rw [h] at hx; cases hx
      | some n => rw [h] at hx; exact ⟨n, rfl, (Option.some.inj hx).symm⟩
    have hm := List.mem_of_getElem? hn
    have htk : ns.take (i + 1) = ns.take i ++ [n] := by rw [List.take_add_one, hn]; rfl
    have hnew : n ∉ ns.take i := by
      have h1 : (ns.take (i + 1)).Nodup := hnd.sublist (List.take_sublist _ _)
      rw [htk, List.nodup_append] at h1
      exact fun z => h1.2.2 n z n (by simp) rfl
    show wipe _ vs = wipe σ vs ∧ _
    refine ⟨hw _, ht n H2 _ hm e1 ?_⟩
    cases hb : b n with
    | true =>
      refine iteT (hk n H2 _ hm (hv n H2 _ hm hb e1 fun H3 e3 => ⟨_, Sum.inr n, rfl, e3 _ _ e2, ?_, fun c oo hc => ?_, ?_⟩))
      · rw [List.length_map]
        exact Nat.lt_of_le_of_lt (Nat.le_trans (List.length_filter_le _ _) (by rw [List.length_take]; omega)) hz
      · rw [upd_ne (ne_of_none hc hD)]; exact e3 _ _ (e1 _ _ hc)
      · rw [upd_same, htk, List.filter_append, List.map_append]
        have hno : valV (((ns.take i).filter b).map fun n => ((Sum.inr n : Key), f n)) (Sum.inr n) = none := by
          cases hv : valV (((ns.take i).filter b).map fun n => ((Sum.inr n : Key), f n)) (Sum.inr n) with
          | none => rfl
          | some v =>
            have := valV_in hv
            rw [List.map_map] at this
            obtain ⟨m, hm1, hm2⟩ := List.mem_map.mp this
            have : m = n := Sum.inr.inj hm2
            exact absurd (List.mem_filter.mp (this ▸ hm1)).1 hnew
        rw [putK_new _ hno]
        simp [hb]
    | false =>
      refine iteF ⟨e1, ?_⟩
      rw [htk, List.filter_append]
      simpa [hb] using e2
  · rintro H1 ⟨e1, e2⟩
    rw [List.take_length] at e2
    exact k _ _ hD e1 e2
theorem walkLN {a : Addr} {ns : List Str} : Walk (Itl K a) ns.length (fun H => SqL K H a (ns.map V.str)) (YAt (ns.map V.str)) := by
  have := walk_list (K := K) (a := a) (xs := ns.map V.str)
  rwa [List.length_map] at this
end
end L3
end
section
local macro_rules | `(tactic| tm_at "s1") => `(tactic| first
  | with_reducible first
    | refine L3.s_seq ?_ | refine L3.s_asg ?_ | refine L3.s_op ?_ | refine L3.s_c ?_ | refine L3.s_cb ?_ | refine L3.s_cons ?_ | refine L3.s_nil ?_ | refine L3.s_test ?_ | refine L3.s_bl ?_
    | refine L3.s_I0 ?_ | refine L3.s_and ?_ | refine L3.s_or ?_ | refine L3.s_not ?_ | refine L3.s_if ?_ | refine L3.s_next ?_ | refine L3.s_ret ?_ | refine L3.s_retN ?_ | refine L3.s_asgS ?_ | refine L3.s_drop ?_
    | refine L3.s_un ?_ | refine L3.s_U ?_ | refine L3.s_int ?_ | refine L3.s_intB ?_ | refine L3.s_abs ?_ | refine L3.s_andV ?_ | refine L3.s_orV ?_ | refine L3.s_notV ?_ | refine L3.s_ifE ?_ | refine L3.s_call ?_ | refine L3.s_lst ?_ | refine L3.s_tup ?_ | refine L3.s_tB ?_
    | refine L3.s_addI ?_ | refine L3.s_inS ?_ | refine L3.s_ninS ?_ | refine L3.s_slice ?_ | refine L3.s_part ?_ | refine L3.s_partI ?_ | refine L3.s_nopart ?_ | refine L3.s_cI ?_ | refine L3.s_cB ?_ | refine L3.s_chain ?_ | refine L3.s_bm ?_ | refine L3.s_lcS ?_ | refine L3.s_lcR ?_ | refine L3.s_strE ?_
    | refine L2.iteT ?_ | refine L2.iteF ?_ | refine L3.iteNF ?_ | refine L3.iteNT ?_
    | refine L3.s_eqI ?_ | refine L3.s_neI ?_ | refine L3.s_eqS ?_ | refine L3.s_neS ?_
    | refine L3.s_pair ?_ | refine L3.s_pair2 ?_ | refine L3.s_fld ?_ | refine L3.s_make ?_ | refine L3.s_m1 ?_ | refine L3.s_isstr ?_
    | refine L3.s_xfV ?_ | refine L3.s_lstN ?_ | refine L3.s_callF ?_ | refine L3.s_lcL ?_ | refine L3.s_par3 ?_ | refine L3.s_trip ?_ | refine L3.s_asgT' ?_ | refine L3.s_gC ?_ | refine L3.s_gN ?_ | refine L3.s_fldG ?_ | refine L3.s_raise1 ?_ | refine L3.s_raise2 ?_ | refine L3.s_star ?_ | refine L3.s_mkCR ?_ | refine L3.s_lcZ ?_ | refine L3.s_forL ?_ | refine L3.s_forT ?_ | refine L3.s_gNm ?_ | refine L3.s_forE ?_ | refine L3.s_stC ?_ | refine L3.s_cmC ?_ | refine L3.s_forR1 ?_ | refine L3.s_lcTp ?_ | refine L3.s_forZ ?_ | refine L3.s_orT ?_
    | refine L3.s_isN ?_ | refine L3.s_isB ?_ | refine L3.s_nisN ?_ | refine L3.s_nisB ?_
  | ((with_reducible refine' L3.s_var ?e ?_); (case e => rfl))
  | ((with_reducible refine' L3.s_aug ?e ?_); (case e => rfl))
  | ((with_reducible refine' L3.s_pow ?c ?_); (case c => exact ⟨by decide, by decide, by decide⟩)))
local macro_rules | `(tactic| tm_at "s") => `(tactic| repeat tm_at "s1")
namespace K30
open PySem PySem.Spec PyProof.Rows L2 L3 LamX RZ
def topS (i : Nat) : Stmt := PySem.Challenge.pw_latechunks_k30_whole_small_lists_over_al.main.body.getD i (.Pass ⟨0, 0, 0, 0⟩)
structure TxtB (K : PySem.W.Frag) (mg : Str → Option Value) : Prop where
  b_isinstance : mg "isinstance" = none
  b_int : mg "int" = none
  b_bool : mg "bool" = none
abbrev s_is_integer : Stmt := topS 5
theorem sc_is_integer : FnScope ["value"] ["value"] (defScope s_is_integer) := ⟨rfl, rfl, rfl, by decide +kernel, rfl, by decide +kernel, by decide +kernel⟩
abbrev s_is_within : Stmt := topS 6
theorem sc_is_within : FnScope ["value", "least", "most"] ["value", "least", "most"] (defScope s_is_within) := ⟨rfl, rfl, rfl, by decide +kernel, rfl, by decide +kernel, by decide +kernel⟩
section
variable {P : Program} {w : World} {K : PySem.W.Frag} {mg : Str → Option Value} {base : Heap}
theorem ok_is_integer {f : Addr} {fd : FuncData} (F : Fun K "is_integer" "is_integer" s_is_integer f fd) (T : TxtB K mg) : FnOk P w K mg base CX0 1 f fd ["value"] (spIsI2 K) := by
  refine funO F sc_is_integer (fun vs H Q E h => ?_) (fun cd A fr s H vs Q E hr h => ?_)
  · obtain ⟨x, rfl, _⟩ := h; rfl
  · obtain ⟨x, rfl, ⟨i, rfl, k⟩ | ⟨⟨b, rfl⟩ | ⟨ty, h1, h2⟩, k⟩⟩ := h
    · refine ⟨_, (pss_one (ps_ret (pe_and (pe_callB (KX.callIsi (K := K)) (by rfl) T.b_isinstance (by decide +kernel) (pa_cons (pv 0) (pa_cons (pe_bltn (v := .ty "int") (u := .type "int") (by rfl) T.b_int (by decide +kernel) rfl) pa_nil))) (pe_one (pe_not (pe_callB (KX.callIsi (K := K)) (by rfl) T.b_isinstance (by decide +kernel) (pa_cons (pv 0) (pa_cons (pe_bltn (v := .ty "bool") (u := .type "bool") (by rfl) T.b_bool (by decide +kernel) rfl) pa_nil)))))))), ?_⟩
      tm_at "s"
      refine s_isiT (.x (.base (.int i))) (b := true) (kit_ty (by decide +kernel)) ?_
      tm_at "s"
      refine s_isiT (.x (.base (.int i))) (b := false) (kit_ty (by decide +kernel)) ?_
      tm_at "s"
      exact k
    · refine ⟨_, (pss_one (ps_ret (pe_and (pe_callB (KX.callIsi (K := K)) (by rfl) T.b_isinstance (by decide +kernel) (pa_cons (pv 0) (pa_cons (pe_bltn (v := .ty "int") (u := .type "int") (by rfl) T.b_int (by decide +kernel) rfl) pa_nil))) (pe_one (pe_not (pe_callB (KX.callIsi (K := K)) (by rfl) T.b_isinstance (by decide +kernel) (pa_cons (pv 0) (pa_cons (pe_bltn (v := .ty "bool") (u := .type "bool") (by rfl) T.b_bool (by decide +kernel) rfl) pa_nil)))))))), ?_⟩
      tm_at "s"
      refine s_isiT (.x (.base (.bl b))) (b := true) (kit_ty (by decide +kernel)) ?_
      tm_at "s"
      refine s_isiT (.x (.base (.bl b))) (b := true) (kit_ty (by decide +kernel)) ?_
      tm_at "s"
      exact k
    · refine ⟨_, (pss_one (ps_ret (pe_and (pe_callB (KX.callIsi (K := K)) (by rfl) T.b_isinstance (by decide +kernel) (pa_cons (pv 0) (pa_cons (pe_bltn (v := .ty "int") (u := .type "int") (by rfl) T.b_int (by decide +kernel) rfl) pa_nil))) (pe_one (pe_not (pe_callB (KX.callIsi (K := K)) (by rfl) T.b_isinstance (by decide +kernel) (pa_cons (pv 0) (pa_cons (pe_bltn (v := .ty "bool") (u := .type "bool") (by rfl) T.b_bool (by decide +kernel) rfl) pa_nil)))))))), ?_⟩
      tm_at "s"
      refine s_isiT h1 h2 ?_
      tm_at "s"
      exact k
theorem ok_is_within {f : Addr} {fd : FuncData} (F : Fun K "is_within" "is_within" s_is_within f fd) (T : TxtB K mg) (c_is_integer : FnO P w K mg base CX0 1 "is_integer" ["value"] (spIsI2 K)) : FnOk P w K mg base CX0 2 f fd ["value", "least", "most"] (spWithin2 K) := by
  refine funO F sc_is_within (fun vs H Q E h => ?_) (fun cd A fr s H vs Q E hr h => ?_)
  · obtain ⟨x, a, b, rfl, _⟩ := h; rfl
  · obtain ⟨x, a, b, rfl, hc⟩ := h
    refine ⟨_, (pss_one (ps_ret (pe_and (pe_o c_is_integer hr pass0 (pa_cons (pv 0) pa_nil)) (pe_one (pe_chain op_le op_le (pv 1) (pv 0) (pv 2)))))), ?_⟩
    tm_at "s"
    rcases hc with ⟨i, rfl, h1, h2, k⟩ | ⟨ni | ⟨i, rfl, hn⟩, k⟩
    · refine ⟨_, rfl, .inl ⟨i, rfl, ?_⟩⟩
      tm_at "s"
      refine iteD (fun _ => ?_) (fun z => absurd h1 z)
      tm_at "s"
      rw [decide_eq_true h2]
      exact k
    · refine ⟨_, rfl, .inr ⟨ni, ?_⟩⟩
      tm_at "s"
      exact k
    · refine ⟨_, rfl, .inl ⟨i, rfl, ?_⟩⟩
      tm_at "s"
      refine iteD (fun z => ?_) (fun z => ?_)
      · tm_at "s"
        rw [decide_eq_false (fun y => hn ⟨z, y⟩)]
        exact k
      · tm_at "s"
        exact k
/-- the promise that the fractions ask of is_integer -/
theorem isI_od {K : PySem.W.Frag} (c : FnO P w K mg base CX0 1 "is_integer" ["value"] (spIsI2 K)) : FnO P w K mg base CX0 1 "is_integer" ["value"] spIsI := by
  obtain ⟨f, fd, F, h⟩ := c.ex
  refine ⟨f, fd, F.imp fun vs H Q E h => ?_, h⟩
  obtain ⟨x, e, h | ⟨t, ht, q⟩⟩ := h
  · exact ⟨x, e, .inl h⟩
  · exact ⟨x, e, .inr ⟨ht.noInt, q⟩⟩
end
end K30
end
section
local macro_rules | `(tactic| tm_at "s1") => `(tactic| first
  | with_reducible first
    | refine L3.s_seq ?_ | refine L3.s_asg ?_ | refine L3.s_op ?_ | refine L3.s_c ?_ | refine L3.s_cb ?_ | refine L3.s_cons ?_ | refine L3.s_nil ?_ | refine L3.s_test ?_ | refine L3.s_bl ?_
    | refine L3.s_I0 ?_ | refine L3.s_and ?_ | refine L3.s_or ?_ | refine L3.s_not ?_ | refine L3.s_if ?_ | refine L3.s_next ?_ | refine L3.s_ret ?_ | refine L3.s_retN ?_ | refine L3.s_asgS ?_ | refine L3.s_drop ?_
    | refine L3.s_un ?_ | refine L3.s_U ?_ | refine L3.s_int ?_ | refine L3.s_intB ?_ | refine L3.s_abs ?_ | refine L3.s_andV ?_ | refine L3.s_orV ?_ | refine L3.s_notV ?_ | refine L3.s_ifE ?_ | refine L3.s_call ?_ | refine L3.s_lst ?_ | refine L3.s_tup ?_ | refine L3.s_tB ?_
    | refine L3.s_addI ?_ | refine L3.s_inS ?_ | refine L3.s_ninS ?_ | refine L3.s_slice ?_ | refine L3.s_part ?_ | refine L3.s_partI ?_ | refine L3.s_nopart ?_ | refine L3.s_cI ?_ | refine L3.s_cB ?_ | refine L3.s_chain ?_ | refine L3.s_bm ?_ | refine L3.s_lcS ?_ | refine L3.s_lcR ?_ | refine L3.s_strE ?_
    | refine L2.iteT ?_ | refine L2.iteF ?_ | refine L3.iteNF ?_ | refine L3.iteNT ?_
    | refine L3.s_eqI ?_ | refine L3.s_neI ?_ | refine L3.s_eqS ?_ | refine L3.s_neS ?_
    | refine L3.s_pair ?_ | refine L3.s_pair2 ?_ | refine L3.s_fld ?_ | refine L3.s_make ?_ | refine L3.s_m1 ?_ | refine L3.s_isstr ?_
    | refine L3.s_xfV ?_ | refine L3.s_lstN ?_ | refine L3.s_callF ?_ | refine L3.s_lcL ?_ | refine L3.s_par3 ?_ | refine L3.s_trip ?_ | refine L3.s_asgT' ?_ | refine L3.s_gC ?_ | refine L3.s_gN ?_ | refine L3.s_fldG ?_ | refine L3.s_raise1 ?_ | refine L3.s_raise2 ?_ | refine L3.s_star ?_ | refine L3.s_mkCR ?_ | refine L3.s_lcZ ?_ | refine L3.s_forL ?_ | refine L3.s_forT ?_ | refine L3.s_gNm ?_ | refine L3.s_forE ?_ | refine L3.s_stC ?_ | refine L3.s_cmC ?_ | refine L3.s_forR1 ?_ | refine L3.s_lcTp ?_ | refine L3.s_forZ ?_ | refine L3.s_orT ?_
    | refine L3.s_isN ?_ | refine L3.s_isB ?_ | refine L3.s_nisN ?_ | refine L3.s_nisB ?_
  | ((with_reducible refine' L3.s_var ?e ?_); (case e => rfl))
  | ((with_reducible refine' L3.s_aug ?e ?_); (case e => rfl))
  | ((with_reducible refine' L3.s_pow ?c ?_); (case c => exact ⟨by decide, by decide, by decide⟩)))
local macro_rules | `(tactic| tm_at "s") => `(tactic| repeat tm_at "s1")
namespace K30
open PySem PySem.Spec PyProof.Rows L2 L3 LamX RZ
structure TxtC (K : PySem.W.Frag) (mg : Str → Option Value) (C CB CC CM CL CT CN CW : Addr) : Prop where
  b_isinstance : mg "isinstance" = none
  b_int : mg "int" = none
  b_bool : mg "bool" = none
  b_len : mg "len" = none
  b_abs : mg "abs" = none
  b_list : mg "list" = none
  b_tuple : mg "tuple" = none
  b_range : mg "range" = none
  b_repr : mg "repr" = none
  b_str : mg "str" = none
  b_zip : mg "zip" = none
  b_min : mg "min" = none
  b_max : mg "max" = none
  b_all : mg "all" = none
  b_sorted : mg "sorted" = none
  b_enumerate : mg "enumerate" = none
  b_ValueError : mg "ValueError" = none
  g_LateError : mg "LateError" = some (.ref CL)
  c : ClT K mg "Chunks" C
  s : ErT K mg "BadSize" CB CL ["value"]
  r : ErT K mg "BadChunks" CC CL ["part"]
  m : ErT K mg "TooMany" CM CL ["what", "most"]
  n : ErT K mg "NoChunk" CN CL ["at"]
  w : ErT K mg "BadText" CW CL ["line", "word"]
  kMW : PySem.W.kitOne K (.ref CM) (.ref CW) = some false
  kWM : PySem.W.kitOne K (.ref CW) (.ref CM) = some false
  kCI : PySem.W.kitOne K (.ref C) (.type "int") = some false
  kCS : PySem.W.kitOne K (.ref C) (.type "str") = some false
  kCLT : PySem.W.kitAny K (.ref C) [.type "list", .type "tuple"] = some false
  kTC : (["int", "NoneType", "bool", "str", "tuple", "list", "dict"].all fun T => decide (PySem.W.kitOne K (.type T) (.ref C) = some false)) = true
  cmp : CmpF K C
  nS : NoAttr K C "sizes"
  nE : NoAttr K C "ends"
  nT : NoAttr K C "total"
  nR : NoAttr K C "rests"
  g_MOST_SIZE : ∃ u, mg "MOST_SIZE" = some u ∧ RelV (.int (10 ^ 30)) u
  g_MOST_CHUNKS : ∃ u, mg "MOST_CHUNKS" = some u ∧ RelV (.int 5000) u
  g_MOST_ITEMS : ∃ u, mg "MOST_ITEMS" = some u ∧ RelV (.int (10 ^ 30)) u
  g_MOST_FIGURES : ∃ u, mg "MOST_FIGURES" = some u ∧ RelV (.int 4000) u
  digits : PySem.W.nsIn K cStatics "sys.int_max_str_digits" = some none
section
variable {K : PySem.W.Frag} {mg : Str → Option Value} {C CB CC CM CL CT CN CW : Addr}
theorem TxtC.g_Chunks (T : TxtC K mg C CB CC CM CL CT CN CW) : ∃ u, mg "Chunks" = some u ∧ RelV (.ref C) u := T.c.g
end
abbrev s_is_size : Stmt := topS 7
theorem sc_is_size : FnScope ["value"] ["value"] (defScope s_is_size) := ⟨rfl, rfl, rfl, by decide +kernel, rfl, by decide +kernel, by decide +kernel⟩
abbrev s_need_size : Stmt := topS 32
theorem sc_need_size : FnScope ["value"] ["value"] (defScope s_need_size) := ⟨rfl, rfl, rfl, by decide +kernel, rfl, by decide +kernel, by decide +kernel⟩
abbrev s_need_few : Stmt := topS 33
theorem sc_need_few : FnScope ["many"] ["many"] (defScope s_need_few) := ⟨rfl, rfl, rfl, by decide +kernel, rfl, by decide +kernel, by decide +kernel⟩
abbrev s_ends_of : Stmt := topS 36
theorem sc_ends_of : FnScope ["sizes", "found", "total", "size"] ["sizes"] (defScope s_ends_of) := ⟨rfl, rfl, rfl, by decide +kernel, rfl, by decide +kernel, by decide +kernel⟩
abbrev s_Chunks___init__ : Stmt := inClass (topS 38) 1
abbrev names_Chunks___init__ : List Str := ["self", "sizes", "size", "end"]
theorem sc_Chunks___init__ : FnScope ["self", "sizes", "size", "end"] ["self", "sizes"] (defScope s_Chunks___init__) := ⟨rfl, rfl, rfl, by decide +kernel, rfl, by decide +kernel, by decide +kernel⟩
abbrev s_Chunks_of : Stmt := inClass (topS 38) 2
theorem sc_Chunks_of : FnScope ["sizes"] ["sizes"] (defScope s_Chunks_of) := ⟨rfl, rfl, rfl, by decide +kernel, rfl, by decide +kernel, by decide +kernel⟩
section
variable {P : Program} {w : World} {K : PySem.W.Frag} {mg : Str → Option Value} {base : Heap} {C CB CC CM CL CT CN CW : Addr}
theorem ok_is_size {f : Addr} {fd : FuncData} (F : Fun K "is_size" "is_size" s_is_size f fd) (T : TxtC K mg C CB CC CM CL CT CN CW) (c_is_within : FnO P w K mg base CX0 2 "is_within" ["value", "least", "most"] (spWithin2 K)) : FnOk P w K mg base CX0 3 f fd ["value"] (spSize2 K) := by
  refine funO F sc_is_size (fun vs H Q E h => ?_) (fun cd A fr s H vs Q E hr h => ?_)
  · obtain ⟨x, rfl, _⟩ := h; rfl
  · obtain ⟨x, rfl, hc⟩ := h
    refine ⟨_, (pss_one (ps_ret (pe_o c_is_within hr pass0 (pa_cons (pv 0) (pa_cons pe_int (pa_cons (C8.pe_gc (by rfl) T.g_MOST_SIZE) pa_nil)))))), ?_⟩
    tm_at "s"
    exact ⟨x, 1, 10 ^ 30, rfl, hc⟩
theorem ok_need_size {f : Addr} {fd : FuncData} (F : Fun K "need_size" "need_size" s_need_size f fd) (T : TxtC K mg C CB CC CM CL CT CN CW) (c_is_size : FnO P w K mg base CX0 3 "is_size" ["value"] (spSize2 K)) (e_BadSize : Er1 P w K mg base "BadSize" CB "value") : FnOk P w K mg base (L2.CX P w) 4 f fd ["value"] (spNeedSize K CB) := by
  refine funO F sc_need_size (fun vs H Q E h => ?_) (fun cd A fr s H vs Q E hr h => ?_)
  · obtain ⟨x, rfl, _⟩ := h; rfl
  · obtain ⟨x, rfl, hc⟩ := h
    refine ⟨_, (pss_one (ps_if (pt_not (pt_val (pe_o c_is_size hr pass0 (pa_cons (pv 0) pa_nil)))) (pss_one (ps_raise1 e_BadSize hr rfl (takes_of rfl rfl rfl rfl) (pa_cons (pv 0) pa_nil))) pss_nil)), ?_⟩
    tm_at "s"
    rcases hc with ⟨i, rfl, hi, k⟩ | ⟨ho, rz⟩
    · refine ⟨_, rfl, .inl ⟨i, rfl, hi.1, hi.2, ?_⟩⟩
      tm_at "s"
      exact k
    · refine ⟨_, rfl, .inr ⟨ho, ?_⟩⟩
      tm_at "s"
      exact s_rz rz
theorem ok_need_few {f : Addr} {fd : FuncData} (F : Fun K "need_few" "need_few" s_need_few f fd) (T : TxtC K mg C CB CC CM CL CT CN CW) (e_TooMany : Er2 P w K mg base "TooMany" CM "what" "most") : FnOk P w K mg base (L2.CX P w) 3 f fd ["many"] (spNeedFew CM) := by
  refine funO F sc_need_few (fun vs H Q E h => ?_) (fun cd A fr s H vs Q E hr h => ?_)
  · obtain ⟨x, rfl, _⟩ := h; rfl
  · obtain ⟨n, rfl, hc⟩ := h
    refine ⟨_, (pss_one (ps_if (pt_cmpR op_gt (pv 0) (C8.pe_gc (by rfl) T.g_MOST_CHUNKS) (nomark _)) (pss_one (ps_raise2 e_TooMany hr rfl (takes_of rfl rfl rfl rfl) (pa_cons pe_str (pa_cons (C8.pe_gc (by rfl) T.g_MOST_CHUNKS) pa_nil)))) pss_nil)), ?_⟩
    tm_at "s"
    rcases hc with ⟨hn, k⟩ | ⟨hn, rz⟩
    · refine iteD (fun z => absurd z (by omega)) (fun _ => ?_)
      tm_at "s"
      exact k
    · refine iteD (fun _ => ?_) (fun z => absurd hn (by omega))
      tm_at "s"
      exact s_rz2 rz
theorem ok_ends_of {f : Addr} {fd : FuncData} (F : Fun K "ends_of" "ends_of" s_ends_of f fd) (T : TxtC K mg C CB CC CM CL CT CN CW) : FnOk P w K mg base CX0 1 f fd ["sizes"] spEnds := by
  refine funO F sc_ends_of (fun vs H Q E h => ?_) (fun cd A fr s H vs Q E hr h => ?_)
  · obtain ⟨t, ns, rfl, _⟩ := h; rfl
  · obtain ⟨t, ns, rfl, ht, hz, k⟩ := h
    refine ⟨_, (pss_cons (ps_set (i := 1) sc_ends_of.nd rfl (Or.inl rfl) (pe_lst pa_nil))
      (pss_cons (ps_set (i := 2) sc_ends_of.nd rfl (Or.inl rfl) pe_int)
      (pss_cons (ps_for (passes_of rfl) rfl (pi_tup (pv 0)) (pg_name (i := 3) sc_ends_of.nd rfl (Or.inl rfl)) (pss_cons (ps_set (i := 2) sc_ends_of.nd rfl (Or.inl rfl) (pe_op opAdd (pv 2) (pv 3)))
      (pss_one (ps_expr (pe_bm PySem.F.plainAttrs_list PySem.F.slot_list_append PySem.F.type_list_append mt_append (pv 1) (pa_cons (pv 2) pa_nil))))))
      (pss_one (ps_ret (pe_callTy call_tuple_of (by rfl) T.b_tuple (by decide +kernel) (pa_cons (pv 1) pa_nil))))))), ?_⟩
    tm_at "s"
    refine s_new (Nat.le_of_lt (small1000 (by simp))) fun l H1 hl e1 h1 => ?_
    try dsimp only
    tm_at "s"
    have htl : t ≠ l := ne_of_none ht hl
    refine s_fT (xs := ns.map V.int) (e1 _ _ ht) (fun i σ H' => ∃ v, σ = [some (.ref t), some (.ref l), some (.int (ns.take i).sum), v] ∧ H' l = some (.lst ((endsOf (ns.take i)).map V.int)) ∧ ∀ b o, b ≠ l → H1 b = some o → H' b = some o) ⟨_, rfl, h1, fun _ _ _ h => h⟩ (fun i σ H' ⟨_, _, _, k2⟩ => k2 _ _ htl (e1 _ _ ht)) ?_ ?_
    · rintro i x _ H' hx ⟨v, rfl, h2, k2⟩
      obtain ⟨n, hn, rfl⟩ := get_int hx
      refine s_gNm ?_
      try dsimp only
      tm_at "s"
      refine s_tyL h2 ?_
      tm_at "s"
      have hi : i < ns.length := (List.getElem?_eq_some_iff.mp hn).1
      refine s_app h2 (Nat.lt_of_le_of_lt (by rw [List.length_map, endsOf_len, List.length_take]; omega) (sz100k hz)) ?_
      have es : (ns.take (i + 1)).sum = (ns.take i).sum + n := by rw [take_snoc hn, List.sum_append, List.sum_cons, List.sum_nil, Int.add_zero]
      refine ⟨_, by rw [es]; rfl, ?_, fun c o hc h => by rw [upd_ne hc]; exact k2 c o hc h⟩
      rw [upd_same, take_snoc hn, endsOf_snoc, List.map_append]; rfl
    · rintro _ H' ⟨v, rfl, h2, k2⟩
      rw [List.length_map, List.take_length] at h2
      try dsimp only
      tm_at "s"
      have e3 : Ex H H' := fun c o hc => k2 c o (ne_of_none hc hl) (e1 _ _ hc)
      exact ⟨l, _, rfl, .inl ⟨.inl (.inl h2), fun q hq => k q _ (e3.free hq) (e3.trans (ex_new hq)) upd_same⟩⟩
theorem ok_Chunks {f : Addr} {fd : FuncData} (F : Fun K "__init__" "Chunks.__init__" s_Chunks___init__ f fd) (T : TxtC K mg C CB CC CM CL CT CN CW) (c_need_size : FnO P w K mg base (L2.CX P w) 4 "need_size" ["value"] (spNeedSize K CB)) (c_need_few : FnO P w K mg base (L2.CX P w) 3 "need_few" ["many"] (spNeedFew CM)) (c_ends_of : FnO P w K mg base CX0 1 "ends_of" ["sizes"] spEnds) :
    FnR P w K mg base (L2.CX P w) 5 f (spCk K C CB CM) := by
  refine funStar F sc_Chunks___init__ (fun _ _ _ _ _ _ _ => rfl) (fun _ _ _ _ _ _ _ _ _ => rfl) (fun cd A fr s H vs Q E hr h => ?_)
  obtain ⟨p, dx, t, xs, rfl, hp, htp, ht, hz, hc⟩ := h
  obtain ⟨ns, rest, rfl, hsz, hr'⟩ : ∃ (ns : List Int) (rest : List V), xs = ns.map V.int ++ rest ∧ (∀ n ∈ ns, siz n) ∧ ((rest = [] ∧ ((ns.length ≤ 5000 ∧ (∀ H', (∀ c o, c ≠ p → H c = some o → H' c = some o) → Ck C H' p ns → Q .non H')) ∨ (5000 < ns.length ∧ Rz2 CM "what" "most" (.str "chunks") (.int 5000) H E))) ∨ ∃ z r, rest = z :: r ∧ OutS K H z 1 (10 ^ 30) ∧ Rz CB "value" z H E) := by
    rcases hc with ⟨ns, rfl, h1, h2⟩ | ⟨ns, z, r, rfl, h1, h2, h3⟩
    · exact ⟨ns, [], by rw [List.append_nil], h1, .inl ⟨rfl, h2⟩⟩
    · exact ⟨ns, z :: r, rfl, h1, .inr ⟨z, r, rfl, h2, h3⟩⟩
  refine ⟨_, (pss_cons (ps_for (passes_of rfl) rfl (pi_tup (pv 1)) (pg_name (i := 2) sc_Chunks___init__.nd rfl (Or.inl rfl)) (pss_one (ps_expr (pe_o c_need_size hr (passT (takes_of rfl rfl rfl rfl) (fun _ _ _ _ h => h)) (pa_cons (pv 2) pa_nil)))))
      (pss_cons (ps_expr (pe_o c_need_few hr (passT (takes_of rfl rfl rfl rfl) (fun _ _ _ _ h => h)) (pa_cons (pe_callB (KX.callLen (K := K)) (by rfl) T.b_len (by decide +kernel) (pa_cons (pv 1) pa_nil)) pa_nil)))
      (pss_cons (ps_fld (pv 0) (pv 1) rfl)
      (pss_cons (ps_fld (pv 0) (pe_o c_ends_of hr pass0 (pa_cons (pv 1) pa_nil)) rfl)
      (pss_cons (ps_fld (pv 0) (pe_ifExp (pt_cmpR op_gt (pe_callB (KX.callLen (K := K)) (by rfl) T.b_len (by decide +kernel) (pa_cons (pv 1) pa_nil)) pe_int (nomark _)) (pe_ix (KX.ixU (K := K)) (KX.fld (K := K) rfl (pv 0) rfl) (pe_un un_neg pe_int) (fun _ _ => rfl)) pe_int) rfl)
      (pss_one (ps_fld (pv 0) (pe_callTy call_tuple_of (by rfl) T.b_tuple (by decide +kernel) (pa_cons (pe_lc (own := [("size", 2), ("end", 3)]) (g := gTup K 2 (gCons (gName 2) (gCons (gName 3) gNil))) (tt := tYes) (by rfl) sc_Chunks___init__.nd (RZ.pi_zipA (by rfl) T.b_zip (pa_cons (KX.fld (K := K) rfl (pv 0) rfl) (pa_cons (KX.fld (K := K) rfl (pv 0) rfl) pa_nil))) (blkOk_by (own := [("size", 2), ("end", 3)]) (N := names_Chunks___init__) (sc := defScope s_Chunks___init__) (by decide +kernel)) (fun _ _ _ _ _ => pg_tup rfl (pgs_cons (pg_name (i := 2) sc_Chunks___init__.nd rfl (Or.inl rfl)) (pgs_cons (pg_name (i := 3) sc_Chunks___init__.nd rfl (Or.inl rfl)) pgs_nil))) (fun _ _ _ _ _ => pts_nil) (fun _ _ _ _ _ => (pe_op opAdd (pe_op op_sub (KX.fld (K := K) rfl (pv 0) rfl) (pv 3)) (pv 2)))) pa_nil)) rfl))))))), ?_⟩
  tm_at "s"
  refine s_fT ht (fun i σ H' => H' = H ∧ i ≤ ns.length ∧ ∃ v v', σ = [some (.ref p), some (.ref t), v, v']) ⟨rfl, Nat.zero_le _, _, _, rfl⟩ (fun i σ H' ⟨h, _⟩ => by rw [h]; exact ht) ?_ ?_
  · rintro i x _ H' hx ⟨rfl, hi, v, v', rfl⟩
    refine s_gNm ?_
    try dsimp only
    tm_at "s"
    rcases Nat.lt_or_ge i ns.length with hl | hl
    · rw [List.getElem?_append_left (by rw [List.length_map]; exact hl)] at hx
      obtain ⟨n, hn, rfl⟩ := get_int hx
      exact ⟨_, rfl, .inl ⟨n, rfl, hsz n (List.mem_of_getElem? hn), rfl, hl, _, _, rfl⟩⟩
    · have e : i = ns.length := by omega
      subst e
      rw [List.getElem?_append_right (by rw [List.length_map]; exact Nat.le_refl _), List.length_map, Nat.sub_self] at hx
      rcases hr' with ⟨rfl, _⟩ | ⟨z, r, rfl, h2, h3⟩
      · cases hx
      · cases hx
        exact ⟨_, rfl, .inr ⟨h2, h3⟩⟩
  · rintro _ H' ⟨rfl, hi, v, v', rfl⟩
    rcases hr' with ⟨rfl, hfew⟩ | ⟨z, r, rfl, h2, h3⟩
    · rw [List.append_nil] at ht hz
      try dsimp only
      tm_at "s"
      refine s_lenT ht ?_
      tm_at "s"
      rw [List.length_map] at hz ⊢
      rcases hfew with ⟨hle, kq⟩ | ⟨hgt, rz⟩
      · refine ⟨_, rfl, .inl ⟨by omega, ?_⟩⟩
        tm_at "s"
        refine ⟨p, C, dx, [], rfl, hp, T.c.cl, T.nS, by decide, ?_⟩
        tm_at "s"
        refine ⟨t, ns, rfl, by rw [upd_ne htp]; exact ht, hz, fun q H2 nq e2 h2 => ?_⟩
        have hp2 := e2 _ _ (show (upd H' p _) p = some _ from upd_same)
        have hqp : q ≠ p := fun z => by rw [z, upd_same] at nq; cases nq
        have ht2 := e2 t _ (show (upd H' p _) t = some _ by rw [upd_ne htp]; exact ht)
        tm_at "s"
        refine ⟨p, C, dx, _, rfl, hp2, T.c.cl, T.nE, (by show 1 < 1000; decide), ?_⟩
        tm_at "s"
        refine s_lenT (show (upd H2 p _) t = some _ by rw [upd_ne htp]; exact ht2) ?_
        rw [List.length_map]
        tm_at "s"
        generalize hI2 : upd H2 p (HO.ins C dx _) = I2
        have pI2 : I2 p = some (.ins C dx (putF "ends" (.ref q) (putF "sizes" (.ref t) []))) := by rw [← hI2, upd_same]
        have kI2 : ∀ c o, c ≠ p → H' c = some o → I2 c = some o := fun c o hc h => by rw [← hI2, upd_ne hc]; exact e2 c o (by rw [upd_ne hc]; exact h)
        have qI2 : I2 q = some (.tup ((endsOf ns).map V.int)) := by rw [← hI2, upd_ne hqp]; exact h2
        have key : ∀ R : VK, R (.int ns.sum) I2 → if decide ((0 : Int) < (ns.length : Int)) = true then tOp (rIxU K) (tFld K (tVar 0) "ends") (tUn (rU fun i => V.int (-i)) (tC (V.int 1))) [some (V.ref p), some (V.ref t), v, v'] I2 R else tC (.int 0) [some (V.ref p), some (V.ref t), v, v'] I2 R := by
          intro R hR
          refine iteD (fun z => ?_) (fun z => ?_)
          · have hne : ns ≠ [] := fun e => by rw [e] at z; exact absurd z (by decide)
            tm_at "s"
            refine ⟨p, C, dx, _, _, rfl, pI2, T.c.cl, T.nE, rfl, ?_⟩
            tm_at "s"
            exact s_iT qI2 (endsOf_last hne) hR
          · have he : ns = [] := by cases ns with | nil => rfl | cons _ _ => exact absurd (show (0 : Int) < ((_ :: _ : List Int).length : Int) by rw [List.length_cons]; omega) z
            subst he
            exact hR
        refine key _ ?_
        tm_at "s"
        refine ⟨p, C, dx, _, rfl, pI2, T.c.cl, T.nT, (by show 2 < 1000; decide), ?_⟩
        generalize hI3 : upd I2 p (HO.ins C dx _) = I3
        have pI3 : I3 p = some (.ins C dx (putF "total" (.int ns.sum) (putF "ends" (.ref q) (putF "sizes" (.ref t) [])))) := by rw [← hI3, upd_same]
        have kI3 : ∀ c o, c ≠ p → I2 c = some o → I3 c = some o := fun c o hc h => by rw [← hI3, upd_ne hc]; exact h
        have qI3 := kI3 _ _ hqp qI2
        have tI3 := kI3 _ _ htp (kI2 _ _ htp ht)
        try dsimp only
        tm_at "s"
        refine ⟨p, C, dx, _, _, rfl, pI3, T.c.cl, T.nS, rfl, ?_⟩
        tm_at "s"
        refine ⟨p, C, dx, _, _, rfl, pI3, T.c.cl, T.nE, rfl, ?_⟩
        tm_at "s"
        refine ⟨t, q, _, _, rfl, .inr ⟨.inl (.inl tI3), .inl (.inl qI3), lcZT (fun i => .int (ns.sum - (endsOf ns).getD i 0 + ns.getD i 0)) (by rw [List.length_map, List.length_map, endsOf_len]) tI3 qI3 (by rw [List.length_map]; exact sz100k hz) (fun _ _ => rfl) (fun i x y H4 R hx hy e4 r => ?_) fun D H4 nD e4 h4 => ?_⟩⟩
        · obtain ⟨n, hn, rfl⟩ := get_int hx
          obtain ⟨m, hm, rfl⟩ := get_int hy
          tm_at "s"
          refine ⟨p, C, dx, _, _, rfl, e4 _ _ pI3, T.c.cl, T.nT, rfl, ?_⟩
          tm_at "s"
          have e1 : ns.getD i 0 = n := by rw [List.getD_eq_getElem?_getD, hn]; rfl
          have e2 : (endsOf ns).getD i 0 = m := by rw [List.getD_eq_getElem?_getD, hm]; rfl
          rw [e1, e2] at r
          exact r
        · tm_at "s"
          rw [List.length_map] at h4
          refine ⟨D, _, rfl, .inl ⟨.inl (.inl h4), fun u hu => ?_⟩⟩
          tm_at "s"
          have pI4 := e4 _ _ pI3
          have hup : u ≠ p := fun z => by rw [z, pI4] at hu; cases hu
          refine ⟨p, C, dx, _, rfl, by rw [upd_ne hup.symm]; exact pI4, T.c.cl, T.nR, (by show 3 < 1000; decide), ?_⟩
          have ku : ∀ c o, c ≠ p → I3 c = some o → (upd (upd H4 u (HO.tup ((List.range ns.length).map fun i => V.int (ns.sum - (endsOf ns).getD i 0 + ns.getD i 0)))) p (HO.ins C dx (ckF t q u ns.sum))) c = some o := fun c o hc h => by
            rw [upd_ne hc, upd_ne (ne_of_none (e4 _ _ h) hu)]; exact e4 _ _ h
          refine kq _ (fun c o hc h => ku c o hc (kI3 _ _ hc (kI2 _ _ hc h))) ⟨dx, t, q, u, upd_same, ku _ _ htp tI3, ku _ _ hqp qI3, ?_⟩
          rw [upd_ne hup, upd_same]
          unfold restsOf
          rw [List.map_map]; rfl
      · exact ⟨_, rfl, .inr ⟨by omega, rz⟩⟩
    · rw [List.length_append, List.length_map, List.length_cons] at hi
      omega
theorem ok_of {f : Addr} {fd : FuncData} (F : Fun K "of" "Chunks.of" s_Chunks_of f fd) (T : TxtC K mg C CB CC CM CL CT CN CW) (m_Chunks : McR P w K mg base (L2.CX P w) 5 "Chunks" C (spCk K C CB CM)) (e_BadChunks : Er1 P w K mg base "BadChunks" CC "part") :
    FnOk P w K mg base (L2.CX P w) 7 f fd ["sizes"] (spOf K C CB CC CM) := by
  refine funO F sc_Chunks_of (fun vs H Q E h => ?_) (fun cd A fr s H vs Q E hr h => ?_)
  · obtain ⟨x, rfl, _⟩ := h; rfl
  · obtain ⟨x, rfl, hc⟩ := h
    refine ⟨_, (pss_cons (ps_if (pt_not (pt_val (pe_callB (KX.isiTT (K := K) rfl) (by rfl) T.b_isinstance (by decide +kernel) (pa_cons (pv 0) (pa_cons (pe_tup (pa_cons (pe_bltn (v := .ty "list") (u := .type "list") (by rfl) T.b_list (by decide +kernel) rfl) (pa_cons (pe_bltn (v := .ty "tuple") (u := .type "tuple") (by rfl) T.b_tuple (by decide +kernel) rfl) pa_nil))) pa_nil))))) (pss_one (ps_raise1 e_BadChunks hr rfl (takes_of rfl rfl rfl rfl) (pa_cons pe_str pa_nil))) pss_nil)
      (pss_one (ps_ret (pe_mkRS m_Chunks hr (passT (takes_of rfl rfl rfl rfl) (fun _ _ _ _ h => h)) (pv 0))))), ?_⟩
    tm_at "s"
    refine s_new (Nat.le_of_lt (small1000 (by simp))) fun q H1 hq e1 h1 => ?_
    tm_at "s"
    rcases hc with ⟨a, xs, rfl, ha | ha, hg⟩ | ⟨⟨ty, t1, t2⟩, rz⟩
    · refine s_isiLT (b := true) h1 (.base (.lst (e1 _ _ ha))) (kit_lt (b1 := true) (b2 := false) (by decide +kernel) (by decide +kernel)) ?_
      tm_at "s"
      refine ⟨a, xs, rfl, .inr (.inl (.inl (e1 _ _ ha))), ?_⟩
      tm_at "s"
      rw [List.append_nil]
      exact s_mkCk (hg.ex e1 fun ns g q H' nq e hc => g q H' (e1.trans e) hc)
    · refine s_isiLT (b := true) h1 (.base (.tup (e1 _ _ ha))) (kit_lt (b1 := false) (b2 := true) (by decide +kernel) (by decide +kernel)) ?_
      tm_at "s"
      refine ⟨a, xs, rfl, .inl (.inl (.inl (e1 _ _ ha))), ?_⟩
      tm_at "s"
      rw [List.append_nil]
      exact s_mkCk (hg.ex e1 fun ns g q H' nq e hc => g q H' (e1.trans e) hc)
    · refine s_isiLT h1 (L3.TyX.exN t1 e1.n) t2 ?_
      tm_at "s"
      exact s_rz (rz.ex' e1)
end
end K30
end
section
namespace L3
open PySem PySem.NumText PySem.Spec PyProof.Rows L2 LamX RZ ClX
/-- str(x), x a text or a number -/
def rStrV (K : PySem.W.Frag) : List V → Hp → VK → Prop := fun xs H Q => rStrB K xs H Q ∨ ∃ a, xs = [.str a] ∧ Q (.str a) H
theorem KX.strV {X : Cx} {K : PySem.W.Frag} (hK : X.K = K) (hc : X.calm = true) : CallR X (.type "str") (rStrV K) := by
  subst hK
  intro pins s σ H xs us Q I r h
  rcases h with h | ⟨a, rfl, q⟩
  · exact callStrB hc pins s σ H xs us Q I r h
  · obtain ⟨u, rfl, t, rfl⟩ := vals1 r
    exact PySem.P.str_of_str ⟨.str a, H, I, ⟨t, rfl⟩, q⟩
theorem s_strVT {K : PySem.W.Frag} {z : Str} {H : Hp} {Q : VK} (h : Q (.str z) H) : rStrV K [.str z] H Q := .inr ⟨z, rfl, h⟩
end L3
end
section
namespace L3
open PySem PySem.NumText PySem.Spec PyProof.Rows L2 LamX RZ
def wordsV : List V := [.str "cost", .str "fee", .str "none", .str "order", .str "ready", .str "self", .str "chunks", .str "crew", .str "late", .str "at"]
abbrev signsT : Str := "abcdefghijklmnopqrstuvwxyz"
def nameB (z : Str) : Bool := (decide (1 ≤ (z.length : Int)) && decide ((z.length : Int) ≤ 8)) && (!inV (.str z) wordsV && z.cps.toList.all fun c => decide (c ∈ signsT.cps.toList))
theorem nameB_len {z : Str} (h : nameB z = true) : z.length ≤ 8 := by
  unfold nameB at h
  rw [Bool.and_eq_true, Bool.and_eq_true] at h
  have := of_decide_eq_true h.1.2
  omega
/-- no text -/
def NS (K : PySem.W.Frag) (H : Hp) (x : V) : Prop := ∃ ty, TyA K H x ty ∧ PySem.W.kitOne K ty (.type "str") = some false
def spIsNm (K : PySem.W.Frag) : Sp := fun vs H Q _ => ∃ x, vs = [x] ∧ ((∃ z, x = .str z ∧ z.length ≤ 100000 ∧ ∀ H', Ex H H' → Q (.bl (nameB z)) H') ∨ (NS K H x ∧ Q (.bl false) H))
theorem map_blC {α : Type} (f : α → Bool) (l : List α) : (l.map fun c => V.bl (f c)) = (l.map f).map V.bl := by rw [List.map_map]; rfl
theorem all_mapC {α : Type} (f : α → Bool) (l : List α) : (l.map f).all id = l.all f := by rw [List.all_map]; rfl
theorem filt_trueC {α : Type} (l : List α) : l.filter (fun _ => true) = l := List.filter_eq_self.mpr fun _ _ => rfl
abbrev wI (p : Str × Int) : Key × V := (Sum.inr p.1, .int p.2)
def sumW (ws : List (Str × Int)) : Int := (ws.map (·.2)).sum
def minW : List (Str × Int) → Int
  | [] => 0
  | [p] => p.2
  | p :: q :: r => min p.2 (minW (q :: r))
def maxW : List (Str × Int) → Int
  | [] => 0
  | [p] => p.2
  | p :: q :: r => max p.2 (maxW (q :: r))
theorem minW_is : ∀ {ws : List (Str × Int)} {m : Int}, m ∈ ws.map (·.2) → (∀ y ∈ ws.map (·.2), m ≤ y) → minW ws = m
  | [], _, h, _ => by cases h
  | [p], m, h, k => by
    simp at h
    exact h.symm
  | p :: q :: r, m, h, k => by
    have kp := k p.2 (by simp)
    show min p.2 (minW (q :: r)) = m
    by_cases hm : m ∈ (q :: r).map (·.2)
    · rw [minW_is hm fun y hy => k y (List.mem_cons_of_mem _ hy)]
      omega
    · have e : m = p.2 := by
        rcases List.mem_cons.mp h with e | e
        · exact e
        · exact absurd e hm
      subst e
      have hx : minW (q :: r) ∈ (q :: r).map (·.2) := by
        have : ∀ l : List (Str × Int), l ≠ [] → minW l ∈ l.map (·.2) := by
          intro l
          induction l with
          | nil => intro z; exact absurd rfl z
          | cons a l ih =>
            intro _
            cases l with
            | nil => exact List.mem_cons_self ..
            | cons b l =>
              have := ih (by simp)
              show min a.2 (minW (b :: l)) ∈ _
              rcases Int.le_total a.2 (minW (b :: l)) with c | c
              · rw [Int.min_eq_left c]; exact List.mem_cons_self ..
              · rw [Int.min_eq_right c]; exact List.mem_cons_of_mem _ this
        exact this _ (by simp)
      have := k _ (List.mem_cons_of_mem _ hx)
      omega
theorem maxW_is : ∀ {ws : List (Str × Int)} {m : Int}, m ∈ ws.map (·.2) → (∀ y ∈ ws.map (·.2), y ≤ m) → maxW ws = m
  | [], _, h, _ => by cases h
  | [p], m, h, k => by
    simp at h
    exact h.symm
  | p :: q :: r, m, h, k => by
    have kp := k p.2 (by simp)
    show max p.2 (maxW (q :: r)) = m
    by_cases hm : m ∈ (q :: r).map (·.2)
    · rw [maxW_is hm fun y hy => k y (List.mem_cons_of_mem _ hy)]
      omega
    · have e : m = p.2 := by
        rcases List.mem_cons.mp h with e | e
        · exact e
        · exact absurd e hm
      subst e
      have hx : maxW (q :: r) ∈ (q :: r).map (·.2) := by
        have : ∀ l : List (Str × Int), l ≠ [] → maxW l ∈ l.map (·.2) := by
          intro l
          induction l with
          | nil => intro z; exact absurd rfl z
          | cons a l ih =>
            intro _
            cases l with
            | nil => exact List.mem_cons_self ..
            | cons b l =>
              have := ih (by simp)
              show max a.2 (maxW (b :: l)) ∈ _
              rcases Int.le_total a.2 (maxW (b :: l)) with c | c
              · rw [Int.max_eq_right c]; exact List.mem_cons_of_mem _ this
              · rw [Int.max_eq_left c]; exact List.mem_cons_self ..
        exact this _ (by simp)
      have := k _ (List.mem_cons_of_mem _ hx)
      omega
theorem minW_mem : ∀ {ws : List (Str × Int)}, ws ≠ [] → minW ws ∈ ws.map (·.2)
  | [], h => absurd rfl h
  | [p], _ => List.mem_cons_self ..
  | a :: b :: l, _ => by
    have := minW_mem (ws := b :: l) (by simp)
    show min a.2 (minW (b :: l)) ∈ _
    rcases Int.le_total a.2 (minW (b :: l)) with c | c
    · rw [Int.min_eq_left c]; exact List.mem_cons_self ..
    · rw [Int.min_eq_right c]; exact List.mem_cons_of_mem _ this
theorem maxW_mem : ∀ {ws : List (Str × Int)}, ws ≠ [] → maxW ws ∈ ws.map (·.2)
  | [], h => absurd rfl h
  | [p], _ => List.mem_cons_self ..
  | a :: b :: l, _ => by
    have := maxW_mem (ws := b :: l) (by simp)
    show max a.2 (maxW (b :: l)) ∈ _
    rcases Int.le_total a.2 (maxW (b :: l)) with c | c
    · rw [Int.max_eq_right c]; exact List.mem_cons_of_mem _ this
    · rw [Int.max_eq_left c]; exact List.mem_cons_self ..
/-- the first name with this speed -/
def firstW (ws : List (Str × Int)) (m : Int) : Str := match ws.find? (fun p => p.2 == m) with
  | some p => p.1
  | none => ""
def slowW (ws : List (Str × Int)) : Str := firstW ws (minW ws)
def fastW (ws : List (Str × Int)) : Str := firstW ws (maxW ws)
theorem firstW_filter {ws : List (Str × Int)} {m : Int} (h : m ∈ ws.map (·.2)) : ∃ r, (ws.filter fun p => p.2 == m).map (·.1) = firstW ws m :: r := by
  unfold firstW
  induction ws with
  | nil => cases h
  | cons p ws ih =>
    by_cases e : (p.2 == m) = true
    · rw [List.filter_cons_of_pos (p := fun p : Str × Int => p.2 == m) e, List.find?_cons_of_pos (p := fun p : Str × Int => p.2 == m) e]
      exact ⟨_, rfl⟩
    · rw [List.filter_cons_of_neg (p := fun p : Str × Int => p.2 == m) e, List.find?_cons_of_neg (p := fun p : Str × Int => p.2 == m) e]
      refine ih ?_
      rcases List.mem_cons.mp h with z | z
      · rw [z] at e; simp at e
      · exact z
/-- the speed of the first name with it, in a list of unlike names -/
theorem firstW_mem {ws : List (Str × Int)} {m : Int} (h : m ∈ ws.map (·.2)) : (firstW ws m, m) ∈ ws := by
  unfold firstW
  cases e : ws.find? (fun p => p.2 == m) with
  | none =>
    obtain ⟨p, hp, rfl⟩ := List.mem_map.mp h
    have := List.find?_eq_none.mp e p hp
    simp at this
  | some p =>
    have h1 := List.find?_some e
    have h2 := List.mem_of_find?_eq_some e
    have e3 : p.2 = m := by simpa using h1
    rw [← e3]
    exact h2
theorem valV_mem : ∀ {ws : List (Str × Int)} {n : Str} {i : Int}, (ws.map (·.1)).Nodup → (n, i) ∈ ws → valV (ws.map wI) (Sum.inr n) = some (.int i)
  | p :: r, n, i, hn, h => by
    have hn' : p.1 ∉ r.map (·.1) ∧ (r.map (·.1)).Nodup := List.nodup_cons.mp hn
    rw [List.map_cons]
    rcases List.mem_cons.mp h with e | e
    · rw [← e]; exact valV_pos rfl
    · rw [valV_neg fun z => hn'.1 (by rw [show p.1 = n from Sum.inr.inj z]; exact List.mem_map_of_mem e)]
      exact valV_mem hn'.2 e
theorem valV_no {ws : List (Str × Int)} {n : Str} (h : n ∉ ws.map (·.1)) : valV (ws.map wI) (Sum.inr n) = none := by
  cases e : valV (ws.map wI) (Sum.inr n) with
  | none => rfl
  | some v =>
    have := valV_in e
    rw [List.map_map] at this
    obtain ⟨p, hp, e2⟩ := List.mem_map.mp this
    exact absurd (List.mem_map_of_mem (f := (·.1)) hp) (by rw [show p.1 = n from Sum.inr.inj e2]; exact h)
/-- what a crew can be made of -/
structure OkW (ws : List (Str × Int)) : Prop where
  ne : ws ≠ []
  le : ws.length ≤ 8
  nm : ∀ p ∈ ws, nameB p.1 = true
  sp : ∀ p ∈ ws, 1 ≤ p.2 ∧ p.2 ≤ 60
  nd : (ws.map (·.1)).Nodup
theorem OkW.srt {ws : List (Str × Int)} (h : OkW ws) : OkW (srtW ws) where
  ne := fun z => h.ne (List.eq_nil_of_length_eq_zero (by rw [← srtW_len ws, z]; rfl))
  le := by rw [srtW_len]; exact h.le
  nm := fun p hp => h.nm p (srtW_mem.mp hp)
  sp := fun p hp => h.sp p (srtW_mem.mp hp)
  nd := ((srtW_perm ws).map (·.1)).nodup_iff.mpr h.nd
def cwF (d t : Addr) (ws : List (Str × Int)) : List (Str × V) := [("own_speeds", .ref d), ("workers", .ref t), ("speed", .int (sumW ws)), ("slowest", .str (slowW ws)), ("fastest", .str (fastW ws))]
def namesV (ws : List (Str × Int)) : List V := (ws.map (·.1)).map V.str
/-- a crew: its pairs, in order of the names -/
def Cw (C : Addr) (H : Hp) (p : Addr) (ws : List (Str × Int)) : Prop := ∃ dx d t, H p = some (.ins C dx (cwF d t ws)) ∧ H d = some (.dK (ws.map wI)) ∧ H t = some (.tup (namesV ws))
theorem Cw.exN {C : Addr} {H H' : Hp} {p : Addr} {ws : List (Str × Int)} (h : Cw C H p ws) (e : ExtN H H') : Cw C H' p ws := by
  obtain ⟨dx, d, t, h1, h2, h3⟩ := h
  exact ⟨dx, d, t, e _ _ h1 (fun _ z => nomatch z), e _ _ h2 (fun _ z => nomatch z), e _ _ h3 (fun _ z => nomatch z)⟩
theorem Cw.ex {C : Addr} {H H' : Hp} {p : Addr} {ws : List (Str × Int)} (h : Cw C H p ws) (e : Ex H H') : Cw C H' p ws := h.exN e.n
/-- a name's speed -/
def spV (ws : List (Str × Int)) : V → V
  | .str n => (valV (ws.map wI) (Sum.inr n)).getD .non
  | _ => .non
theorem spV_of {ws : List (Str × Int)} {n : Str} {i : Int} (nd : (ws.map (·.1)).Nodup) (h : (n, i) ∈ ws) : spV ws (.str n) = .int i := by
  show (valV (ws.map wI) (Sum.inr n)).getD .non = _
  rw [valV_mem nd h]; rfl
theorem spV_map {ws : List (Str × Int)} (nd : (ws.map (·.1)).Nodup) : (namesV (srtW ws)).map (spV ws) = ((srtW ws).map (·.2)).map V.int := by
  unfold namesV
  rw [List.map_map, List.map_map, List.map_map]
  exact List.map_congr_left fun q hq => spV_of nd (i := q.2) (srtW_mem.mp hq)
theorem namesV_mem {ws : List (Str × Int)} {x : V} (h : x ∈ namesV (srtW ws)) : ∃ n i, x = .str n ∧ (n, i) ∈ ws := by
  unfold namesV at h
  rw [List.map_map] at h
  obtain ⟨q, hq, e⟩ := List.mem_map.mp h
  exact ⟨q.1, q.2, e.symm, srtW_mem.mp hq⟩
def spIn (K : PySem.W.Frag) (m : Int) : Sp := fun vs H Q _ => ∃ x, vs = [x] ∧ ((∃ i, x = .int i ∧ 1 ≤ i ∧ i ≤ m ∧ Q (.bl true) H) ∨ (OutS K H x 1 m ∧ Q (.bl false) H))
def spNeedSpeed (K : PySem.W.Frag) (CS : Addr) : Sp := fun vs H Q E => ∃ x, vs = [x] ∧ ((∃ i, x = .int i ∧ 1 ≤ i ∧ i ≤ 60 ∧ Q .non H) ∨ (OutS K H x 1 60 ∧ Rz CS "value" x H E))
/-- names at the list, speeds in the dict -/
def spNeedSps (K : PySem.W.Frag) (CN CS : Addr) : Sp := fun vs H Q E => ∃ d l kvs ns, vs = [.ref d, .ref l] ∧ H d = some (.dK kvs) ∧ H l = some (.lst (ns.map V.str)) ∧ ns.length ≤ 1000 ∧ (∀ n ∈ ns, n.length ≤ 100000) ∧
  (((∀ n ∈ ns, nameB n = true) ∧ (∀ n ∈ ns, ∃ i, valV kvs (Sum.inr n) = some (.int i) ∧ 1 ≤ i ∧ i ≤ 60) ∧ ∀ H', Ex H H' → Q .non H') ∨
   (∃ as b cs, ns = as ++ b :: cs ∧ (∀ n ∈ as, nameB n = true) ∧ nameB b = false ∧ Rz CN "value" (.str b) H E) ∨
   ((∀ n ∈ ns, nameB n = true) ∧ ∃ as b cs v, ns = as ++ b :: cs ∧ (∀ n ∈ as, ∃ i, valV kvs (Sum.inr n) = some (.int i) ∧ 1 ≤ i ∧ i ≤ 60) ∧ valV kvs (Sum.inr b) = some v ∧ (∀ H', Ex H H' → OutS K H' v 1 60) ∧ Rz CS "value" v H E))
def spFirst : Sp := fun vs H Q _ => ∃ d ws m, vs = [.ref d, .int m] ∧ H d = some (.dK (ws.map wI)) ∧ (ws.map (·.1)).Nodup ∧ ws.length ≤ 1000 ∧ m ∈ ws.map (·.2) ∧ ∀ H', Ex H H' → Q (.str (firstW ws m)) H'
/-- Crew(**speeds) of names and speeds that can be -/
def spCrew (C CC CM : Addr) : Sp := fun vs H Q E => ∃ p dx d ws, vs = [.ref p, .ref d] ∧ H p = some (.ins C dx []) ∧ H d = some (.dK (ws.map wI)) ∧ ws.length < 64 ∧ (ws.map (·.1)).Nodup ∧ (∀ p ∈ ws, nameB p.1 = true) ∧ (∀ p ∈ ws, 1 ≤ p.2 ∧ p.2 ≤ 60) ∧
  ((ws = [] ∧ Rz CC "part" (.str "empty") H E) ∨ (8 < ws.length ∧ Rz2 CM "what" "most" (.str "workers") (.int 8) H E) ∨
   (OkW ws ∧ ∀ H', (∀ c o, c ≠ p → H c = some o → H' c = some o) → Cw C H' p (srtW ws) → Q .non H'))
section
variable {σ : L2.St} {H : Hp} {Q : VK} {K : PySem.W.Frag}
theorem s_dget {td ty : TE} (h : td σ H fun x H1 => ty σ H1 fun y H2 => ∃ a v, x = .ref a ∧ DGet H2 a y (some v) ∧ Q v H2) : tDGet td ty σ H Q := h
theorem s_dgS {a : Addr} {kvs : List (Key × V)} {n : Str} {v : V} {R : V → Prop} (hd : Rd H a (.dK kvs)) (e : valV kvs (Sum.inr n) = some v) (h : R v) : ∃ a' v', V.ref a = .ref a' ∧ DGet H a' (.str n) (some v') ∧ R v' := ⟨a, v, rfl, .inl ⟨kvs, Sum.inr n, hd, rfl, e.symm⟩, h⟩
theorem s_din {td ty : TE} (h : ty σ H fun y H1 => td σ H1 fun x H2 => ∃ a o, x = .ref a ∧ DGet H2 a y o ∧ Q (.bl o.isSome) H2) : tDIn ty td σ H Q := h
theorem s_dnin {td ty : TE} (h : ty σ H fun y H1 => td σ H1 fun x H2 => ∃ a o, x = .ref a ∧ DGet H2 a y o ∧ Q (.bl (!o.isSome)) H2) : tDNotIn ty td σ H Q := h
theorem s_diS {a : Addr} {kvs : List (Key × V)} {n : Str} {R : Option V → Prop} (hd : Rd H a (.dK kvs)) (h : R (valV kvs (Sum.inr n))) : ∃ a' o, V.ref a = .ref a' ∧ DGet H a' (.str n) o ∧ R o := ⟨a, _, rfl, .inl ⟨kvs, Sum.inr n, hd, rfl, rfl⟩, h⟩
theorem s_mkKV {C : Addr} {ns : List Str} {sp : Sp} {E : XK} {ks : TA} (h : ks σ H fun vs H1 => MkKw C sp E (ns.zip vs) H1 Q) : tMkKV C ns sp E ks σ H Q := h
/-- C(a = .., b = ..), what the making asks -/
theorem s_mkCw {C CC CM : Addr} {E : XK} {ws : List (Str × Int)} (ok : OkW ws) (k : ∀ q H', H q = none → Ex H H' → Cw C H' q (srtW ws) → Q (.ref q) H') : MkKw C (spCrew C CC CM) E (ws.map fun p => (p.1, V.int p.2)) H Q := by
  intro x dx d hx hdx hne hd hdx' hdd
  have e : (ws.map fun p => (p.1, V.int p.2)).map kI = ws.map wI := by rw [List.map_map]; rfl
  refine ⟨x, dx, d, ws, rfl, by rw [upd_ne (Ne.symm hdx'), upd_same], by rw [upd_same, e], ?_, ok.nd, ok.nm, ok.sp, .inr (.inr ⟨ok, fun H' kp hc => ⟨rfl, k x H' hx (fun c o hco => ?_) hc⟩⟩)⟩
  · have := ok.le; omega
  · have h1 := ne_of_none hco hx
    have h2 := ne_of_none hco hd
    have h3 := ne_of_none hco hdx
    exact kp c o h1 (by rw [upd_ne h2, upd_ne h1, upd_ne h3]; exact hco)
end
section
variable {X : Cx} {C : Addr} {k j : Nat} {E : XK}
theorem opNotInOwnP {sp : Sp} {ps : List Str} (B : Me X.prog X.w X.K X.mg X.base C "__contains__" k ps sp) (hl : ps.length = 2) (hr : Room j X.A) (hx : Passes (L2.CX X.prog X.w) X E) (hk : k ≤ j := by decide) : OpR X (compareOp .NotIn) (rInOwn C sp E true) := by
  obtain ⟨f, fd, h1, h2, G, b⟩ := B.ex
  intro pins s σ H x y v u Q I rx ry h
  obtain ⟨a, dx, fs, rfl, ea, q⟩ := h
  obtain rfl : u = Value.ref a := ry
  obtain ⟨od, J⟩ := ins_inst I.hok ea
  obtain ⟨m, Fr⟩ := I.fr
  refine PySem.W.notIn_K Fr I.mod.kin J h1 h2 ?_
  refine wpAny_call (codeAny_mono (G.run X.A X.stack s H ⟨[.ref a, v], []⟩ [.ref a, v] [.ref a, x] (fun z H' => ∃ c, z = .bl c ∧ Q (.bl (c ^^ true)) H') E (hr.mono hk) I.env0 (by have := b s [.ref a, v] I.kIn hl.symm; rw [List.append_nil] at this; exact this) (.cons (show RelV (.ref a) (.ref a) from rfl) (.cons rx .nil)) q) fun r s' z => ?_)
  match r, z with
  | .error e, z => exact hx pins σ H s e s' I z
  | .ok (.ret u), z =>
    obtain ⟨v', H', I', r', c, rfl, q'⟩ := I.after z
    cases (show u = Value.bool c from r')
    refine wpAny_of_eq (a := c) (by first | rfl | (unfold truthy; rfl)) ?_
    rw [Bool.xor_true] at q'
    exact ⟨.bl (!c), H', I', rfl, q'⟩
end
def spContW (K : PySem.W.Frag) (C : Addr) : Sp := fun vs H Q _ => ∃ p y ws, vs = [.ref p, y] ∧ Cw C H p ws ∧ ((∃ n, y = .str n ∧ Q (.bl (valV (ws.map wI) (Sum.inr n)).isSome) H) ∨ (NS K H y ∧ Q (.bl false) H))
def spGetW (K : PySem.W.Frag) (C CO : Addr) : Sp := fun vs H Q E => ∃ p y ws, vs = [.ref p, y] ∧ Cw C H p ws ∧ ((∃ n i, y = .str n ∧ valV (ws.map wI) (Sum.inr n) = some (.int i) ∧ Q (.int i) H) ∨ ((NS K H y ∨ ∃ n, y = .str n ∧ valV (ws.map wI) (Sum.inr n) = none) ∧ Rz CO "name" y H E))
end L3
end
section
local macro_rules | `(tactic| tm_at "s1") => `(tactic| first
  | with_reducible first
    | refine L3.s_seq ?_ | refine L3.s_asg ?_ | refine L3.s_op ?_ | refine L3.s_c ?_ | refine L3.s_cb ?_ | refine L3.s_cons ?_ | refine L3.s_nil ?_ | refine L3.s_test ?_ | refine L3.s_bl ?_
    | refine L3.s_I0 ?_ | refine L3.s_and ?_ | refine L3.s_or ?_ | refine L3.s_not ?_ | refine L3.s_if ?_ | refine L3.s_next ?_ | refine L3.s_ret ?_ | refine L3.s_retN ?_ | refine L3.s_asgS ?_ | refine L3.s_drop ?_
    | refine L3.s_un ?_ | refine L3.s_U ?_ | refine L3.s_int ?_ | refine L3.s_intB ?_ | refine L3.s_abs ?_ | refine L3.s_andV ?_ | refine L3.s_orV ?_ | refine L3.s_notV ?_ | refine L3.s_ifE ?_ | refine L3.s_call ?_ | refine L3.s_lst ?_ | refine L3.s_tup ?_ | refine L3.s_tB ?_
    | refine L3.s_addI ?_ | refine L3.s_inS ?_ | refine L3.s_ninS ?_ | refine L3.s_slice ?_ | refine L3.s_part ?_ | refine L3.s_partI ?_ | refine L3.s_nopart ?_ | refine L3.s_cI ?_ | refine L3.s_cB ?_ | refine L3.s_chain ?_ | refine L3.s_bm ?_ | refine L3.s_lcS ?_ | refine L3.s_lcR ?_ | refine L3.s_strE ?_
    | refine L2.iteT ?_ | refine L2.iteF ?_ | refine L3.iteNF ?_ | refine L3.iteNT ?_
    | refine L3.s_eqI ?_ | refine L3.s_neI ?_ | refine L3.s_eqS ?_ | refine L3.s_neS ?_
    | refine L3.s_pair ?_ | refine L3.s_pair2 ?_ | refine L3.s_fld ?_ | refine L3.s_make ?_ | refine L3.s_m1 ?_ | refine L3.s_isstr ?_
    | refine L3.s_xfV ?_ | refine L3.s_lstN ?_ | refine L3.s_callF ?_ | refine L3.s_lcL ?_ | refine L3.s_par3 ?_ | refine L3.s_trip ?_ | refine L3.s_asgT' ?_ | refine L3.s_gC ?_ | refine L3.s_gN ?_ | refine L3.s_fldG ?_ | refine L3.s_raise1 ?_ | refine L3.s_raise2 ?_ | refine L3.s_star ?_ | refine L3.s_mkCR ?_ | refine L3.s_lcZ ?_ | refine L3.s_forL ?_ | refine L3.s_forT ?_ | refine L3.s_gNm ?_ | refine L3.s_forE ?_ | refine L3.s_stC ?_ | refine L3.s_cmC ?_ | refine L3.s_forR1 ?_ | refine L3.s_lcTp ?_ | refine L3.s_forZ ?_ | refine L3.s_orT ?_ | refine L3.s_mt ?_ | refine L3.s_revT ?_ | refine L3.s_revL ?_ | refine L3.s_slOwn ?_ | refine L3.s_sl3 ?_ | refine L3.s_lcO ?_ | refine L3.s_stR ?_
    | refine L3.s_dcL ?_ | refine L3.s_dcT ?_ | refine L3.s_dget ?_ | refine L3.s_forET ?_ | refine L3.s_din ?_ | refine L3.s_dnin ?_ | refine L3.s_mkKV ?_
    | refine L3.s_isN ?_ | refine L3.s_isB ?_ | refine L3.s_nisN ?_ | refine L3.s_nisB ?_
  | ((with_reducible refine' L3.s_var ?e ?_); (case e => rfl))
  | ((with_reducible refine' L3.s_aug ?e ?_); (case e => rfl))
  | ((with_reducible refine' L3.s_pow ?c ?_); (case c => exact ⟨by decide, by decide, by decide⟩)))
local macro_rules | `(tactic| tm_at "s") => `(tactic| repeat tm_at "s1")
namespace K30
open PySem PySem.Spec PyProof.Rows L2 L3 LamX RZ
structure TxtW (K : PySem.W.Frag) (mg : Str → Option Value) (C CN CS CC CM CO CL aW : Addr) : Prop where
  b_isinstance : mg "isinstance" = none
  b_int : mg "int" = none
  b_bool : mg "bool" = none
  b_len : mg "len" = none
  b_str : mg "str" = none
  b_list : mg "list" = none
  b_dict : mg "dict" = none
  b_tuple : mg "tuple" = none
  b_sorted : mg "sorted" = none
  b_sum : mg "sum" = none
  b_min : mg "min" = none
  b_max : mg "max" = none
  b_all : mg "all" = none
  b_any : mg "any" = none
  c : ClT K mg "Crew" C
  n : ErT K mg "BadName" CN CL ["value"]
  s : ErT K mg "BadSpeed" CS CL ["value"]
  r : ErT K mg "BadCrew" CC CL ["part"]
  m : ErT K mg "TooMany" CM CL ["what", "most"]
  o : ErT K mg "NoWorker" CO CL ["name"]
  nO : NoAttr K C "own_speeds"
  nW : NoAttr K C "workers"
  nS : NoAttr K C "speed"
  nL : NoAttr K C "slowest"
  nF : NoAttr K C "fastest"
  g_WORDS : ∃ u, mg "WORDS" = some u ∧ RelV (.ref aW) u
  words : ∀ H, SqT K H aW wordsV
  g_SIGNS : ∃ u, mg "SIGNS" = some u ∧ RelV (.str signsT) u
  g_MOST_SPEED : ∃ u, mg "MOST_SPEED" = some u ∧ RelV (.int 60) u
  g_MOST_WORKERS : ∃ u, mg "MOST_WORKERS" = some u ∧ RelV (.int 8) u
section
variable {K : PySem.W.Frag} {mg : Str → Option Value} {C CN CS CC CM CO CL aW : Addr}
theorem TxtW.g_Crew (T : TxtW K mg C CN CS CC CM CO CL aW) : ∃ u, mg "Crew" = some u ∧ RelV (.ref C) u := T.c.g
end
abbrev s_is_name : Stmt := topS 8
abbrev names_is_name : List Str := ["value", "sign"]
theorem sc_is_name : FnScope ["value", "sign"] ["value"] (defScope s_is_name) := ⟨rfl, rfl, rfl, by decide +kernel, rfl, by decide +kernel, by decide +kernel⟩
abbrev s_is_speed : Stmt := topS 50
theorem sc_is_speed : FnScope ["value"] ["value"] (defScope s_is_speed) := ⟨rfl, rfl, rfl, by decide +kernel, rfl, by decide +kernel, by decide +kernel⟩
abbrev s_need_speed : Stmt := topS 51
theorem sc_need_speed : FnScope ["value"] ["value"] (defScope s_need_speed) := ⟨rfl, rfl, rfl, by decide +kernel, rfl, by decide +kernel, by decide +kernel⟩
abbrev s_need_speeds : Stmt := topS 52
theorem sc_need_speeds : FnScope ["speeds", "names", "name"] ["speeds", "names"] (defScope s_need_speeds) := ⟨rfl, rfl, rfl, by decide +kernel, rfl, by decide +kernel, by decide +kernel⟩
abbrev s_first_with : Stmt := topS 55
abbrev names_first_with : List Str := ["speeds", "speed", "name"]
theorem sc_first_with : FnScope ["speeds", "speed", "name"] ["speeds", "speed"] (defScope s_first_with) := ⟨rfl, rfl, rfl, by decide +kernel, rfl, by decide +kernel, by decide +kernel⟩
abbrev s_Crew___init__ : Stmt := inClass (topS 56) 0
abbrev names_Crew___init__ : List Str := ["self", "speeds", "names", "name"]
theorem sc_Crew___init__ : FnScope ["self", "speeds", "names", "name"] ["self", "speeds"] (defScope s_Crew___init__) := ⟨rfl, rfl, rfl, by decide +kernel, rfl, by decide +kernel, by decide +kernel⟩
abbrev s_Crew___contains__ : Stmt := inClass (topS 56) 8
theorem sc_Crew___contains__ : FnScope ["self", "name"] ["self", "name"] (defScope s_Crew___contains__) := ⟨rfl, rfl, rfl, by decide +kernel, rfl, by decide +kernel, by decide +kernel⟩
abbrev s_Crew___getitem__ : Stmt := inClass (topS 56) 7
theorem sc_Crew___getitem__ : FnScope ["self", "name"] ["self", "name"] (defScope s_Crew___getitem__) := ⟨rfl, rfl, rfl, by decide +kernel, rfl, by decide +kernel, by decide +kernel⟩
section
variable {P : Program} {w : World} {K : PySem.W.Frag} {mg : Str → Option Value} {base : Heap} {C CN CS CC CM CO CL aW : Addr}
theorem ok_is_name {f : Addr} {fd : FuncData} (F : Fun K "is_name" "is_name" s_is_name f fd) (T : TxtW K mg C CN CS CC CM CO CL aW) : FnOk P w K mg base CX0 1 f fd ["value"] (spIsNm K) := by
  refine funO F sc_is_name (fun vs H Q E h => ?_) (fun cd A fr s H vs Q E hr h => ?_)
  · obtain ⟨x, rfl, _⟩ := h; rfl
  · obtain ⟨x, rfl, hc⟩ := h
    refine ⟨_, (pss_cons (ps_if (PW.pt (pw_or (pt_not (pt_val (pe_callB (KX.callIsi (K := K)) (by rfl) T.b_isinstance (by decide +kernel) (pa_cons (pv 0) (pa_cons (pe_bltn (v := .ty "str") (u := .type "str") (by rfl) T.b_str (by decide +kernel) rfl) pa_nil))))) (pw_or (pt_not (pt_chain op_le op_le pe_int (pe_callB (KX.callLen (K := K)) (by rfl) T.b_len (by decide +kernel) (pa_cons (pv 0) pa_nil)) pe_int)) (pw_or1 (pt_cmpR (KX.opIn (K := K)) (pv 0) (C8.pe_gc (by rfl) T.g_WORDS) (by rfl)))))) (pss_one (ps_ret pe_bl)) pss_nil)
      (pss_one (ps_ret (pe_callB (KX.callAll (K := K) rfl rfl) (by rfl) T.b_all (by decide +kernel) (pa_cons (pe_lc (own := [("sign", 1)]) (g := gName 1) (tt := tYes) (by rfl) sc_is_name.nd (pi_str (pv 0)) (blkOk_by (own := [("sign", 1)]) (N := names_is_name) (sc := defScope s_is_name) (by decide +kernel)) (fun _ _ _ _ _ => pg_name (i := 1) sc_is_name.nd rfl (Or.inl rfl)) (fun _ _ _ _ _ => pts_nil) (fun _ _ _ _ _ => (pe_cmpR (KX.opIn (K := K)) (pv 1) (C8.pe_gc (by rfl) T.g_SIGNS) (by rfl)))) pa_nil))))), ?_⟩
    tm_at "s"
    rcases hc with ⟨z, rfl, hz, fin0⟩ | ⟨⟨ty, h1, h2⟩, k⟩
    · refine s_isiT (.x (.base (.str z))) (b := true) (kit_ty (by decide +kernel)) ?_
      tm_at "s"
      refine s_lenS (Nat.le_of_lt (sz100k hz)) ?_
      tm_at "s"
      have fin : ∀ b : Bool, nameB z = b → ∀ H', Ex H H' → Q (.bl b) H' := fun b e => by rw [← e]; exact fin0
      refine iteB (fun h1 => ?_) (fun h1 => ?_)
      · tm_at "s"
        refine iteB (fun h2 => ?_) (fun h2 => ?_)
        · tm_at "s"
          refine fin false ?_ H (Ex.refl H)
          unfold nameB
          have : decide ((z.length : Int) ≤ 8) = false := by simpa using h2
          rw [this, Bool.and_false, Bool.false_and]
        · tm_at "s"
          refine s_inT (T.words H) rfl (by decide +kernel) ?_
          tm_at "s"
          have h3 : decide ((z.length : Int) ≤ 8) = true := by simpa using h2
          refine iteB (fun h4 => ?_) (fun h4 => ?_)
          · tm_at "s"
            refine fin false ?_ H (Ex.refl H)
            unfold nameB
            rw [h4, Bool.not_true, Bool.false_and, Bool.and_false]
          · tm_at "s"
            refine lcStr (fun _ => true) (fun c => .bl (decide (c ∈ signsT.cps.toList))) (sz100k hz) (fun _ => rfl) (fun c H' R h => h) (fun c H' R _ h => ?_) fun q H2 hq e2 h2 => ?_
            · tm_at "s"
              exact h
            · rw [filt_trueC, map_blC] at h2
              tm_at "s"
              refine s_all h2 ?_
              refine fin _ ?_ H2 e2
              unfold nameB
              rw [h1, h3, h4, all_mapC]
              rfl
      · tm_at "s"
        refine fin false ?_ H (Ex.refl H)
        unfold nameB
        rw [h1]; rfl
    · refine s_isiT h1 h2 ?_
      tm_at "s"
      exact k
theorem ok_is_speed {f : Addr} {fd : FuncData} (F : Fun K "is_speed" "is_speed" s_is_speed f fd) (T : TxtW K mg C CN CS CC CM CO CL aW) (c_is_within : FnO P w K mg base CX0 2 "is_within" ["value", "least", "most"] (spWithin2 K)) : FnOk P w K mg base CX0 3 f fd ["value"] (spIn K 60) := by
  refine funO F sc_is_speed (fun vs H Q E h => ?_) (fun cd A fr s H vs Q E hr h => ?_)
  · obtain ⟨x, rfl, _⟩ := h; rfl
  · obtain ⟨x, rfl, hc⟩ := h
    refine ⟨_, (pss_one (ps_ret (pe_o c_is_within hr pass0 (pa_cons (pv 0) (pa_cons pe_int (pa_cons (C8.pe_gc (by rfl) T.g_MOST_SPEED) pa_nil)))))), ?_⟩
    tm_at "s"
    exact ⟨x, 1, 60, rfl, hc⟩
theorem ok_need_speed {f : Addr} {fd : FuncData} (F : Fun K "need_speed" "need_speed" s_need_speed f fd) (T : TxtW K mg C CN CS CC CM CO CL aW) (c_is_speed : FnO P w K mg base CX0 3 "is_speed" ["value"] (spIn K 60)) (e_BadSpeed : Er1 P w K mg base "BadSpeed" CS "value") : FnOk P w K mg base (L2.CX P w) 4 f fd ["value"] (spNeedSpeed K CS) := by
  refine funO F sc_need_speed (fun vs H Q E h => ?_) (fun cd A fr s H vs Q E hr h => ?_)
  · obtain ⟨x, rfl, _⟩ := h; rfl
  · obtain ⟨x, rfl, hc⟩ := h
    refine ⟨_, (pss_one (ps_if (pt_not (pt_val (pe_o c_is_speed hr pass0 (pa_cons (pv 0) pa_nil)))) (pss_one (ps_raise1 e_BadSpeed hr rfl (takes_of rfl rfl rfl rfl) (pa_cons (pv 0) pa_nil))) pss_nil)), ?_⟩
    tm_at "s"
    rcases hc with ⟨i, rfl, h1, h2, k⟩ | ⟨ho, rz⟩
    · refine ⟨_, rfl, .inl ⟨i, rfl, h1, h2, ?_⟩⟩
      tm_at "s"
      exact k
    · refine ⟨_, rfl, .inr ⟨ho, ?_⟩⟩
      tm_at "s"
      exact s_rz rz
theorem ok_need_speeds {f : Addr} {fd : FuncData} (F : Fun K "need_speeds" "need_speeds" s_need_speeds f fd) (T : TxtW K mg C CN CS CC CM CO CL aW) (c_is_name : FnO P w K mg base CX0 1 "is_name" ["value"] (spIsNm K)) (c_need_speed : FnO P w K mg base (L2.CX P w) 4 "need_speed" ["value"] (spNeedSpeed K CS)) (e_BadName : Er1 P w K mg base "BadName" CN "value") :
    FnOk P w K mg base (L2.CX P w) 5 f fd ["speeds", "names"] (spNeedSps K CN CS) := by
  refine funO F sc_need_speeds (fun vs H Q E h => ?_) (fun cd A fr s H vs Q E hr h => ?_)
  · obtain ⟨d, l, kvs, ns, rfl, _⟩ := h; rfl
  · obtain ⟨d, l, kvs, ns, rfl, hd, hl, hz, hzn, hc⟩ := h
    refine ⟨_, (pss_cons (ps_for (passes_of rfl) rfl (pi_list (pv 1)) (pg_name (i := 2) sc_need_speeds.nd rfl (Or.inl rfl)) (pss_one (ps_if (pt_not (pt_val (pe_o c_is_name hr pass0 (pa_cons (pv 2) pa_nil)))) (pss_one (ps_raise1 e_BadName hr rfl (takes_of rfl rfl rfl rfl) (pa_cons (pv 2) pa_nil))) pss_nil)))
      (pss_one (ps_for (passes_of rfl) rfl (pi_list (pv 1)) (pg_name (i := 2) sc_need_speeds.nd rfl (Or.inl rfl)) (pss_one (ps_expr (pe_o c_need_speed hr (passT (takes_of rfl rfl rfl rfl) (fun _ _ _ _ h => h)) (pa_cons (pe_dget (hu_of hr) (pv 0) (pv 2) (fun _ _ => rfl)) pa_nil))))))), ?_⟩
    tm_at "s"
    -- the first walk: names; as far as they are good
    have nm1 : ∃ (gs rest : List Str), ns = gs ++ rest ∧ (∀ n ∈ gs, nameB n = true) ∧ (rest = [] ∨ ∃ b cs, rest = b :: cs ∧ nameB b = false ∧ Rz CN "value" (.str b) H E) ∧
        (rest = [] → ((∀ n ∈ ns, ∃ i, valV kvs (Sum.inr n) = some (.int i) ∧ 1 ≤ i ∧ i ≤ 60) ∧ ∀ H', Ex H H' → Q .non H') ∨ (∃ as b cs v, ns = as ++ b :: cs ∧ (∀ n ∈ as, ∃ i, valV kvs (Sum.inr n) = some (.int i) ∧ 1 ≤ i ∧ i ≤ 60) ∧ valV kvs (Sum.inr b) = some v ∧ (∀ H', Ex H H' → OutS K H' v 1 60) ∧ Rz CS "value" v H E)) := by
      rcases hc with ⟨a1, a2, a3⟩ | ⟨as, b, cs, e, a1, a2, a3⟩ | ⟨a1, a2⟩
      · exact ⟨ns, [], by simp, a1, .inl rfl, fun _ => .inl ⟨a2, a3⟩⟩
      · exact ⟨as, b :: cs, e, a1, .inr ⟨b, cs, rfl, a2, a3⟩, fun z => by cases z⟩
      · exact ⟨ns, [], by simp, a1, .inl rfl, fun _ => .inr a2⟩
    obtain ⟨gs, rest, e, hg, hr1, h2⟩ := nm1
    refine s_fL hl (fun i σ H' => Ex H H' ∧ i ≤ gs.length ∧ ∃ v, σ = [some (.ref d), some (.ref l), v]) ⟨Ex.refl H, Nat.zero_le _, _, rfl⟩ (fun i σ H' ⟨h, _⟩ => h _ _ hl) ?_ ?_
    · rintro i x _ H' hx ⟨e1, hi, v, rfl⟩
      refine s_gNm ?_
      try dsimp only
      tm_at "s"
      obtain ⟨n, hn, rfl⟩ : ∃ n, ns[i]? = some n ∧ x = V.str n := by
        rw [List.getElem?_map] at hx
        cases h : ns[i]? with
        | none => rw [h] at hx; cases hx
        | some n => rw [h] at hx; exact ⟨n, rfl, (Option.some.inj hx).symm⟩
      refine ⟨_, rfl, .inl ⟨n, rfl, hzn n (List.mem_of_getElem? hn), fun H2 e2 => ?_⟩⟩
      rcases Nat.lt_or_ge i gs.length with c | c
      · have hn' : gs[i]? = some n := by rw [e, List.getElem?_append_left c] at hn; exact hn
        rw [hg n (List.mem_of_getElem? hn')]
        tm_at "s"
        exact ⟨e1.trans e2, c, _, rfl⟩
      · have ei : i = gs.length := by omega
        rw [e, ei, List.getElem?_append_right (Nat.le_refl _), Nat.sub_self] at hn
        rcases hr1 with rfl | ⟨b, cs, rfl, hb, rz⟩
        · cases hn
        · cases hn
          rw [hb]
          tm_at "s"
          exact s_rz (rz.ex (e1.trans e2))
    · rintro _ H' ⟨e1, hi, v, rfl⟩
      have hr0 : rest = [] := by
        rw [e, List.length_map, List.length_append] at hi
        exact List.eq_nil_of_length_eq_zero (by omega)
      subst hr0
      try dsimp only
      tm_at "s"
      have sp1 : ∃ (gs rest : List Str), ns = gs ++ rest ∧ (∀ n ∈ gs, ∃ i, valV kvs (Sum.inr n) = some (.int i) ∧ 1 ≤ i ∧ i ≤ 60) ∧ ((rest = [] ∧ ∀ H', Ex H H' → Q .non H') ∨ ∃ b cs v, rest = b :: cs ∧ valV kvs (Sum.inr b) = some v ∧ (∀ H', Ex H H' → OutS K H' v 1 60) ∧ Rz CS "value" v H E) := by
        rcases h2 rfl with ⟨a2, a3⟩ | ⟨as, b, cs, v, e, a1, a2, a3⟩
        · exact ⟨ns, [], by simp, a2, .inl ⟨rfl, a3⟩⟩
        · exact ⟨as, b :: cs, e, a1, .inr ⟨b, cs, v, rfl, a2, a3⟩⟩
      obtain ⟨gs2, rest, e', hg, hr1⟩ := sp1
      refine s_fL (e1 _ _ hl) (fun i σ H' => Ex H H' ∧ i ≤ gs2.length ∧ ∃ v, σ = [some (.ref d), some (.ref l), v]) ⟨e1, Nat.zero_le _, _, rfl⟩ (fun i σ H' ⟨h, _⟩ => h _ _ hl) ?_ ?_
      · rintro i x _ H' hx ⟨e1, hi, v, rfl⟩
        refine s_gNm ?_
        try dsimp only
        tm_at "s"
        obtain ⟨n, hn, rfl⟩ : ∃ n, ns[i]? = some n ∧ x = V.str n := by
          rw [List.getElem?_map] at hx
          cases h : ns[i]? with
          | none => rw [h] at hx; cases hx
          | some n => rw [h] at hx; exact ⟨n, rfl, (Option.some.inj hx).symm⟩
        rcases Nat.lt_or_ge i gs2.length with c | c
        · have hn' : gs2[i]? = some n := by rw [e', List.getElem?_append_left c] at hn; exact hn
          obtain ⟨j, hj, j1, j2⟩ := hg n (List.mem_of_getElem? hn')
          refine s_dgS (.inl (e1 _ _ hd)) hj ?_
          tm_at "s"
          refine ⟨_, rfl, .inl ⟨j, rfl, j1, j2, ?_⟩⟩
          tm_at "s"
          exact ⟨e1, c, _, rfl⟩
        · have ei : i = gs2.length := by omega
          rw [e', ei, List.getElem?_append_right (Nat.le_refl _), Nat.sub_self] at hn
          rcases hr1 with ⟨rfl, _⟩ | ⟨b, cs, v, rfl, hb, ho, rz⟩
          · cases hn
          · cases hn
            refine s_dgS (.inl (e1 _ _ hd)) hb ?_
            tm_at "s"
            exact ⟨_, rfl, .inr ⟨ho _ e1, rz.ex e1⟩⟩
      · rintro _ H' ⟨e1, hi, v, rfl⟩
        rcases hr1 with ⟨rfl, k⟩ | ⟨b, cs, v, rfl, _⟩
        · try dsimp only
          tm_at "s"
          exact k _ e1
        · rw [e', List.length_map, List.length_append, List.length_cons] at hi
          omega
theorem ok_first_with {f : Addr} {fd : FuncData} (F : Fun K "first_with" "first_with" s_first_with f fd) (T : TxtW K mg C CN CS CC CM CO CL aW) : FnOk P w K mg base CX0 1 f fd ["speeds", "speed"] spFirst := by
  refine funO F sc_first_with (fun vs H Q E h => ?_) (fun cd A fr s H vs Q E hr h => ?_)
  · obtain ⟨d, ws, m, rfl, _⟩ := h; rfl
  · obtain ⟨d, ws, m, rfl, hd, nd, hz, hm, k⟩ := h
    refine ⟨_, (pss_one (ps_ret (pe_ix (KX.ixU (K := K)) (pe_lock (pe_lc (own := [("name", 2)]) (g := gName 2) (by rfl) sc_first_with.nd (pi_keys (pv 0)) (blkOk_by (own := [("name", 2)]) (N := names_first_with) (sc := defScope s_first_with) (by decide +kernel)) (fun _ _ _ _ _ => pg_name (i := 2) sc_first_with.nd rfl (Or.inl rfl)) (fun _ _ _ _ _ => pts_one (pt_cmpR (KX.eqU (K := K) rfl hr.units) (pe_dget (hu_of hr) (pv 0) (pv 2) (fun _ _ => rfl)) (pv 1) (nomark _))) (fun _ _ _ _ _ => (pv 2)))) pe_int (fun _ _ => rfl)))), ?_⟩
    tm_at "s"
    have gv : ∀ {kk : Key} {v : V}, (kk, v) ∈ ws.map wI → ∃ n i, kk = Sum.inr n ∧ v = .int i ∧ (n, i) ∈ ws := by
      intro kk v h
      obtain ⟨p, hp, e⟩ := List.mem_map.mp h
      cases e
      exact ⟨p.1, p.2, rfl, rfl, hp⟩
    refine s_lcK (fun _ v => decide (v = .int m)) (fun kk _ => kV kk) hd (by rw [List.length_map]; exact sz100k (by omega)) (fun _ => rfl) (fun od R h => ?_) (fun kk v H1 R hkv hl e r => ?_) (fun kk v H1 R hkv hb hl e r => ?_) fun D H2 nD e2 h2 => ?_
    · tm_at "s"
      exact h
    · obtain ⟨n, i, rfl, rfl, hp⟩ := gv hkv
      tm_at "s"
      refine s_dgS (.inr hl) (valV_mem nd hp) ?_
      tm_at "s"
      rw [show decide (V.int i = .int m) = decide (i = m) by congr 1; simp] at r
      exact r
    · obtain ⟨n, i, rfl, rfl, hp⟩ := gv hkv
      tm_at "s"
      exact r H1 (Ex.refl H1)
    · have e3 : ((ws.map wI).filter fun p => decide (p.2 = V.int m)).map (fun p => kV p.1) = ((ws.filter fun p => p.2 == m).map (·.1)).map V.str := by
        rw [List.filter_map, List.map_map, List.map_map]
        congr 1
        refine List.filter_congr fun p _ => ?_
        show decide (V.int p.2 = .int m) = (p.2 == m)
        rw [show (p.2 == m) = decide (p.2 = m) from rfl]
        simp
      obtain ⟨r, er⟩ := firstW_filter hm
      rw [e3, er] at h2
      tm_at "s"
      exact s_iL h2 (L3.atI_nat (j := 0) rfl) (k _ e2)
theorem ok_Crew {f : Addr} {fd : FuncData} (F : Fun K "__init__" "Crew.__init__" s_Crew___init__ f fd) (T : TxtW K mg C CN CS CC CM CO CL aW) (c_need_speeds : FnO P w K mg base (L2.CX P w) 5 "need_speeds" ["speeds", "names"] (spNeedSps K CN CS)) (c_first_with : FnO P w K mg base CX0 1 "first_with" ["speeds", "speed"] spFirst) (e_BadCrew : Er1 P w K mg base "BadCrew" CC "part") (e_TooMany : Er2 P w K mg base "TooMany" CM "what" "most") :
    FnKw P w K mg base (L2.CX P w) 7 f "self" (spCrew C CC CM) := by
  refine fnKw (k := 6) F sc_Crew___init__ StX.cxUp rfl rfl rfl (fun cd A fr s H vs Q E hr h => ?_)
  obtain ⟨p, dx, d, ws, rfl, hp, hd, hz, nd, hnm, hsp, hc⟩ := h
  have hpd : d ≠ p := fun z => by rw [z, hp] at hd; cases hd
  refine ⟨_, (pss_cons (ps_set (i := 2) sc_Crew___init__.nd rfl (Or.inl rfl) (pe_callB cr_sortedS (by rfl) T.b_sorted (by decide +kernel) (pa_cons (pe_lock (pe_lc (own := [("name", 3)]) (g := gName 3) (tt := tYes) (by rfl) sc_Crew___init__.nd (pi_keys (pv 1)) (blkOk_by (own := [("name", 3)]) (N := names_Crew___init__) (sc := defScope s_Crew___init__) (by decide +kernel)) (fun _ _ _ _ _ => pg_name (i := 3) sc_Crew___init__.nd rfl (Or.inl rfl)) (fun _ _ _ _ _ => pts_nil) (fun _ _ _ _ _ => (pe_callTy (KX.strV (K := K) rfl rfl) (by rfl) T.b_str (by decide +kernel) (pa_cons (pv 3) pa_nil))))) pa_nil)))
      (pss_cons (ps_expr (pe_o c_need_speeds hr (passT (takes_of rfl rfl rfl rfl) (fun _ _ _ _ h => h)) (pa_cons (pv 1) (pa_cons (pv 2) pa_nil))))
      (pss_cons (ps_if (pt_cmpR (KX.eqU (K := K) rfl hr.units) (pe_callB (KX.callLen (K := K)) (by rfl) T.b_len (by decide +kernel) (pa_cons (pv 2) pa_nil)) pe_int (nomark _)) (pss_one (ps_raise1 e_BadCrew hr rfl (takes_of rfl rfl rfl rfl) (pa_cons pe_str pa_nil))) pss_nil)
      (pss_cons (ps_if (pt_cmpR op_gt (pe_callB (KX.callLen (K := K)) (by rfl) T.b_len (by decide +kernel) (pa_cons (pv 2) pa_nil)) (C8.pe_gc (by rfl) T.g_MOST_WORKERS) (nomark _)) (pss_one (ps_raise2 e_TooMany hr rfl (takes_of rfl rfl rfl rfl) (pa_cons pe_str (pa_cons (C8.pe_gc (by rfl) T.g_MOST_WORKERS) pa_nil)))) pss_nil)
      (pss_cons (ps_fld (pv 0) (pe_dc (own := [("name", 3)]) (g := gName 3) (tt := tYes) (by rfl) sc_Crew___init__.nd (pi_list (pv 2)) (blkOk_by (own := [("name", 3)]) (N := names_Crew___init__) (sc := defScope s_Crew___init__) (by decide +kernel)) (fun _ _ _ _ _ => pg_name (i := 3) sc_Crew___init__.nd rfl (Or.inl rfl)) (fun _ _ _ _ _ => pts_nil) (fun _ _ _ _ _ => (pv 3)) (fun _ _ _ _ _ => (pe_dget (hu_of hr) (pv 1) (pv 3) (fun _ _ => rfl)))) rfl)
      (pss_cons (ps_fld (pv 0) (pe_callTy call_tuple_of (by rfl) T.b_tuple (by decide +kernel) (pa_cons (pv 2) pa_nil)) rfl)
      (pss_cons (ps_fld (pv 0) (pe_callB (cr_sum (by rfl)) (by rfl) T.b_sum (by decide +kernel) (pa_cons (pe_lc (own := [("name", 3)]) (g := gName 3) (tt := tYes) (by rfl) sc_Crew___init__.nd (pi_list (pv 2)) (blkOk_by (own := [("name", 3)]) (N := names_Crew___init__) (sc := defScope s_Crew___init__) (by decide +kernel)) (fun _ _ _ _ _ => pg_name (i := 3) sc_Crew___init__.nd rfl (Or.inl rfl)) (fun _ _ _ _ _ => pts_nil) (fun _ _ _ _ _ => (pe_dget (hu_of hr) (KX.fld (K := K) rfl (pv 0) rfl) (pv 3) (fun _ _ => rfl)))) pa_nil)) rfl)
      (pss_cons (ps_fld (pv 0) (pe_o c_first_with hr pass0 (pa_cons (KX.fld (K := K) rfl (pv 0) rfl) (pa_cons (pe_callB (cr_min (by rfl)) (by rfl) T.b_min (by decide +kernel) (pa_cons (pe_lc (own := [("name", 3)]) (g := gName 3) (tt := tYes) (by rfl) sc_Crew___init__.nd (pi_list (pv 2)) (blkOk_by (own := [("name", 3)]) (N := names_Crew___init__) (sc := defScope s_Crew___init__) (by decide +kernel)) (fun _ _ _ _ _ => pg_name (i := 3) sc_Crew___init__.nd rfl (Or.inl rfl)) (fun _ _ _ _ _ => pts_nil) (fun _ _ _ _ _ => (pe_callTy (KX.callInt (K := K)) (by rfl) T.b_int (by decide +kernel) (pa_cons (pe_dget (hu_of hr) (pv 1) (pv 3) (fun _ _ => rfl)) pa_nil)))) pa_nil)) pa_nil))) rfl)
      (pss_one (ps_fld (pv 0) (pe_o c_first_with hr pass0 (pa_cons (KX.fld (K := K) rfl (pv 0) rfl) (pa_cons (pe_callB (cr_max (by rfl)) (by rfl) T.b_max (by decide +kernel) (pa_cons (pe_lc (own := [("name", 3)]) (g := gName 3) (tt := tYes) (by rfl) sc_Crew___init__.nd (pi_list (pv 2)) (blkOk_by (own := [("name", 3)]) (N := names_Crew___init__) (sc := defScope s_Crew___init__) (by decide +kernel)) (fun _ _ _ _ _ => pg_name (i := 3) sc_Crew___init__.nd rfl (Or.inl rfl)) (fun _ _ _ _ _ => pts_nil) (fun _ _ _ _ _ => (pe_callTy (KX.callInt (K := K)) (by rfl) T.b_int (by decide +kernel) (pa_cons (pe_dget (hu_of hr) (pv 1) (pv 3) (fun _ _ => rfl)) pa_nil)))) pa_nil)) pa_nil))) rfl)))))))))), ?_⟩
  tm_at "s"
  refine s_lcK (fun _ _ => true) (fun kk _ => kV kk) hd (by rw [List.length_map]; exact sz100k (by omega)) (fun _ => rfl) (fun od R h => ?_) (fun kk v H1 R hkv hl e r => r) (fun kk v H1 R hkv hb hl e r => ?_) fun D H2 nD e2 h2 => ?_
  · tm_at "s"
    exact h
  · obtain ⟨q, hq, e⟩ := List.mem_map.mp hkv
    cases e
    tm_at "s"
    refine s_strVT ?_
    exact r H1 (Ex.refl H1)
  · have e3 : ((ws.map wI).filter fun _ => true).map (fun p => kV p.1) = (ws.map (·.1)).map V.str := by
      rw [filt_trueC, List.map_map, List.map_map]; rfl
    rw [e3] at h2
    tm_at "s"
    refine s_sortS h2 hz fun l H3 nl e3 hl => ?_
    try dsimp only
    tm_at "s"
    have hd3 := (e2.trans e3) _ _ hd
    have sm : ∀ n ∈ (srtW ws).map (·.1), ∃ i, (n, i) ∈ ws := fun n hn => by
      obtain ⟨q, hq, e⟩ := List.mem_map.mp hn
      exact ⟨q.2, by rw [← e]; exact srtW_mem.mp hq⟩
    have nds : ((srtW ws).map (·.1)).Nodup := ((srtW_perm ws).map (·.1)).nodup_iff.mpr nd
    refine ⟨d, l, ws.map wI, (srtW ws).map (·.1), rfl, hd3, hl, by rw [List.length_map, srtW_len]; omega, fun n hn => ?_, .inl ⟨fun n hn => ?_, fun n hn => ?_, fun H4 e4 => ?_⟩⟩
    · obtain ⟨i, hi⟩ := sm n hn
      have := nameB_len (hnm _ hi)
      show n.length ≤ 100000
      have : n.length ≤ 8 := this
      omega
    · obtain ⟨i, hi⟩ := sm n hn
      exact hnm _ hi
    · obtain ⟨i, hi⟩ := sm n hn
      exact ⟨i, valV_mem nd hi, hsp _ hi⟩
    · have eA := (e2.trans e3).trans e4
      have hd4 := e4 _ _ hd3
      have hl4 := e4 _ _ hl
      tm_at "s"
      refine s_lenL hl4 ?_
      rw [List.length_map, List.length_map, srtW_len]
      tm_at "s"
      rcases hc with ⟨rfl, rz⟩ | hc
      · refine iteD (fun _ => ?_) (fun z => absurd rfl z)
        tm_at "s"
        exact s_rz (rz.ex eA)
      refine iteD (fun z => ?_) (fun _ => ?_)
      · exfalso
        rcases hc with ⟨h, _⟩ | ⟨ok, _⟩
        · omega
        · have := List.length_pos_iff.mpr ok.ne; omega
      tm_at "s"
      refine s_lenL hl4 ?_
      rw [List.length_map, List.length_map, srtW_len]
      tm_at "s"
      rcases hc with ⟨h8, rz⟩ | ⟨ok, kq⟩
      · refine iteD (fun _ => ?_) (fun z => absurd (by omega) z)
        tm_at "s"
        exact s_rz2 (rz.ex eA)
      have h8 := ok.le
      refine iteD (fun z => absurd z (by omega)) (fun _ => ?_)
      tm_at "s"
      refine ⟨l, rfl, ⟨_, .inl (.inl hl4)⟩, dcN (walkLN (K := K)) (fun H1 e => .inl (.inl (e _ _ hl4))) (fun _ => true) (fun n => (valV (ws.map wI) (Sum.inr n)).getD .non) nds (by rw [List.length_map, srtW_len]; exact sz100k (by omega)) (fun _ => rfl) (fun n H1 R _ _ r => r) (fun n H1 R _ r => by tm_at "s"; exact r) (fun n H1 R hn _ e r => ?_) fun D2 H5 n5 e5 h5 => ?_⟩
      · obtain ⟨i, hi⟩ := sm n hn
        rw [valV_mem nd hi] at r
        tm_at "s"
        exact s_dgS (.inl (e _ _ hd4)) (valV_mem nd hi) (r H1 (Ex.refl H1))
      · tm_at "s"
        have hs5 : H5 D2 = some (.dK ((srtW ws).map wI)) := by
          rw [h5, filt_trueC, List.map_map]
          congr 2
          refine List.map_congr_left fun q hq => ?_
          show ((Sum.inr q.1 : Key), (valV (ws.map wI) (Sum.inr q.1)).getD .non) = wI q
          rw [valV_mem nd (i := q.2) (srtW_mem.mp hq)]; rfl
        have eB := eA.trans e5
        have hp5 := eB _ _ hp
        have hl5 := e5 _ _ hl4
        have hd5 := e5 _ _ hd4
        have lp : l ≠ p := fun z => by rw [z, hp5] at hl5; cases hl5
        have Dp : D2 ≠ p := fun z => by rw [z, hp5] at hs5; cases hs5
        refine ⟨p, C, dx, [], rfl, hp5, T.c.cl, T.nO, by decide, ?_⟩
        generalize hI5 : upd H5 p (HO.ins C dx _) = I5
        have pI5 : I5 p = some (.ins C dx [("own_speeds", .ref D2)]) := by rw [← hI5, upd_same]; rfl
        have kI5 : ∀ c o, c ≠ p → H5 c = some o → I5 c = some o := fun c o hc h => by rw [← hI5, upd_ne hc]; exact h
        try dsimp only
        tm_at "s"
        refine ⟨l, _, rfl, .inl ⟨.inl (.inl (kI5 _ _ lp hl5)), fun u hu => ?_⟩⟩
        have up : u ≠ p := fun z => by rw [z, pI5] at hu; cases hu
        tm_at "s"
        refine ⟨p, C, dx, _, rfl, by rw [upd_ne (Ne.symm up)]; exact pI5, T.c.cl, T.nW, (by show 1 < 1000; decide), ?_⟩
        generalize hI6 : upd (upd I5 u _) p (HO.ins C dx _) = I6
        have pI6 : I6 p = some (.ins C dx [("own_speeds", .ref D2), ("workers", .ref u)]) := by rw [← hI6, upd_same]; rfl
        have kI6 : ∀ c o, c ≠ p → I5 c = some o → I6 c = some o := fun c o hc h => by rw [← hI6, upd_ne hc, upd_ne (ne_of_none h hu)]; exact h
        have uI6 : I6 u = some (.tup (namesV (srtW ws))) := by rw [← hI6, upd_ne up, upd_same]; rfl
        have lI6 := kI6 _ _ lp (kI5 _ _ lp hl5)
        have DI6 := kI6 _ _ Dp (kI5 _ _ Dp hs5)
        try dsimp only
        tm_at "s"
        have lI6' : I6 l = some (.lst (namesV (srtW ws))) := lI6
        have lz : (namesV (srtW ws)).length < sizeLine := by unfold namesV; rw [List.length_map, List.length_map, srtW_len]; exact sz100k (by omega)
        have dp6 : I6 d = some (.dK (ws.map wI)) := kI6 _ _ hpd (kI5 _ _ hpd hd5)
        refine ⟨l, rfl, ⟨_, .inl (.inl lI6')⟩, lcMap (K := K) (spV ws) lI6' lz (fun _ => rfl) (fun x hx H1 R e r => ?_) fun B1 H7 n7 e7 h7 => ?_⟩
        · obtain ⟨n, i, rfl, hi⟩ := namesV_mem hx
          rw [spV_of nd hi] at r
          tm_at "s"
          refine ⟨p, C, dx, _, _, rfl, e _ _ pI6, T.c.cl, T.nO, rfl, ?_⟩
          tm_at "s"
          exact s_dgS (.inl (e _ _ DI6)) (valV_mem nds (srtW_mem.mpr hi)) (r H1 (Ex.refl H1))
        rw [spV_map nd] at h7
        tm_at "s"
        refine ⟨B1, (srtW ws).map (·.2), rfl, .inl (.inl h7), ?_⟩
        tm_at "s"
        refine ⟨p, C, dx, _, rfl, e7 _ _ pI6, T.c.cl, T.nS, (by show 2 < 1000; decide), ?_⟩
        generalize hI8 : upd H7 p (HO.ins C dx _) = I8
        have pI8 : I8 p = some (.ins C dx [("own_speeds", .ref D2), ("workers", .ref u), ("speed", .int (sumW (srtW ws)))]) := by rw [← hI8, upd_same]; rfl
        have kI8 : ∀ c o, c ≠ p → I6 c = some o → I8 c = some o := fun c o hc h => by rw [← hI8, upd_ne hc]; exact e7 _ _ h
        have lI8 := kI8 _ _ lp lI6'
        have DI8 := kI8 _ _ Dp DI6
        have dI8 := kI8 _ _ hpd dp6
        have ne2 : srtW ws ≠ [] := ok.srt.ne
        try dsimp only
        tm_at "s"
        refine ⟨p, C, dx, _, _, rfl, pI8, T.c.cl, T.nO, rfl, ?_⟩
        tm_at "s"
        refine ⟨l, rfl, ⟨_, .inl (.inl lI8)⟩, lcMap (K := K) (spV ws) lI8 lz (fun _ => rfl) (fun x hx H1 R e r => ?_) fun B2 H9 n9 e9 h9 => ?_⟩
        · obtain ⟨n, i, rfl, hi⟩ := namesV_mem hx
          rw [spV_of nd hi] at r
          tm_at "s"
          refine s_dgS (.inl (e _ _ dI8)) (valV_mem nd hi) ?_
          tm_at "s"
          exact r H1 (Ex.refl H1)
        rw [spV_map nd] at h9
        tm_at "s"
        refine ⟨B2, (srtW ws).map (·.2), rfl, .inl (.inl h9), by rw [List.length_map]; exact List.length_pos_iff.mpr ne2, fun m hm hle => ?_⟩
        obtain rfl := minW_is hm hle
        tm_at "s"
        refine ⟨D2, srtW ws, _, rfl, e9 _ _ DI8, nds, by rw [srtW_len]; omega, hm, fun HA eA' => ?_⟩
        have pIA := eA' _ _ (e9 _ _ pI8)
        tm_at "s"
        refine ⟨p, C, dx, _, rfl, pIA, T.c.cl, T.nL, (by show 3 < 1000; decide), ?_⟩
        generalize hIB : upd HA p (HO.ins C dx _) = IB
        have pIB : IB p = some (.ins C dx [("own_speeds", .ref D2), ("workers", .ref u), ("speed", .int (sumW (srtW ws))), ("slowest", .str (slowW (srtW ws)))]) := by rw [← hIB, upd_same]; rfl
        have kIB : ∀ c o, c ≠ p → I8 c = some o → IB c = some o := fun c o hc h => by rw [← hIB, upd_ne hc]; exact eA' _ _ (e9 _ _ h)
        have lIB := kIB _ _ lp lI8
        have DIB := kIB _ _ Dp DI8
        have dIB := kIB _ _ hpd dI8
        try dsimp only
        tm_at "s"
        refine ⟨p, C, dx, _, _, rfl, pIB, T.c.cl, T.nO, rfl, ?_⟩
        tm_at "s"
        refine ⟨l, rfl, ⟨_, .inl (.inl lIB)⟩, lcMap (K := K) (spV ws) lIB lz (fun _ => rfl) (fun x hx H1 R e r => ?_) fun B3 HC nC eC hC => ?_⟩
        · obtain ⟨n, i, rfl, hi⟩ := namesV_mem hx
          rw [spV_of nd hi] at r
          tm_at "s"
          refine s_dgS (.inl (e _ _ dIB)) (valV_mem nd hi) ?_
          tm_at "s"
          exact r H1 (Ex.refl H1)
        rw [spV_map nd] at hC
        tm_at "s"
        refine ⟨B3, (srtW ws).map (·.2), rfl, .inl (.inl hC), by rw [List.length_map]; exact List.length_pos_iff.mpr ne2, fun m hm2 hle2 => ?_⟩
        obtain rfl := maxW_is hm2 hle2
        tm_at "s"
        refine ⟨D2, srtW ws, _, rfl, eC _ _ DIB, nds, by rw [srtW_len]; omega, hm2, fun HD eD => ?_⟩
        have pID := eD _ _ (eC _ _ pIB)
        tm_at "s"
        refine ⟨p, C, dx, _, rfl, pID, T.c.cl, T.nF, (by show 4 < 1000; decide), ?_⟩
        have kF : ∀ c o, c ≠ p → IB c = some o → (upd HD p (HO.ins C dx (cwF D2 u (srtW ws)))) c = some o := fun c o hc h => by rw [upd_ne hc]; exact eD _ _ (eC _ _ h)
        exact kq _ (fun c o hc h => kF _ _ hc (kIB _ _ hc (kI8 _ _ hc (kI6 _ _ hc (kI5 _ _ hc (eB _ _ h)))))) ⟨dx, D2, u, upd_same, kF _ _ Dp DIB, kF _ _ up (kIB _ _ up (kI8 _ _ up uI6))⟩
theorem ok_wcont {f : Addr} {fd : FuncData} (F : Fun K "__contains__" "Crew.__contains__" s_Crew___contains__ f fd) (T : TxtW K mg C CN CS CC CM CO CL aW) : FnOk P w K mg base (L2.CX P w) 1 f fd ["self", "name"] (spContW K C) := by
  refine funO F sc_Crew___contains__ (fun vs H Q E h => ?_) (fun cd A fr s H vs Q E hr h => ?_)
  · obtain ⟨p, y, ws, rfl, _⟩ := h; rfl
  · obtain ⟨p, y, ws, rfl, hc, hy⟩ := h
    refine ⟨_, (pss_one (ps_ret (pe_and (pe_callB (KX.callIsi (K := K)) (by rfl) T.b_isinstance (by decide +kernel) (pa_cons (pv 1) (pa_cons (pe_bltn (v := .ty "str") (u := .type "str") (by rfl) T.b_str (by decide +kernel) rfl) pa_nil))) (pe_one (pe_cmp (pc_din (hu_of hr) (pv 1) (KX.fld (K := K) rfl (pv 0) rfl))))))), ?_⟩
    tm_at "s"
    rcases hy with ⟨n, rfl, k⟩ | ⟨⟨ty, h1, h2⟩, k⟩
    · refine s_isiT (.x (.base (.str n))) (b := true) (kit_ty (by decide +kernel)) ?_
      obtain ⟨dx, d, t, i1, h1, _⟩ := id hc
      tm_at "s"
      refine ⟨p, C, dx, _, _, rfl, i1, T.c.cl, T.nO, rfl, ?_⟩
      tm_at "s"
      exact s_diS (.inl h1) k
    · refine s_isiT h1 h2 ?_
      tm_at "s"
      exact k
theorem ok_wget {f : Addr} {fd : FuncData} (F : Fun K "__getitem__" "Crew.__getitem__" s_Crew___getitem__ f fd) (T : TxtW K mg C CN CS CC CM CO CL aW) (me_cont : Me P w K mg base C "__contains__" 1 ["self", "name"] (spContW K C)) (e_NoWorker : Er1 P w K mg base "NoWorker" CO "name") :
    FnOk P w K mg base (L2.CX P w) 3 f fd ["self", "name"] (spGetW K C CO) := by
  refine funO F sc_Crew___getitem__ (fun vs H Q E h => ?_) (fun cd A fr s H vs Q E hr h => ?_)
  · obtain ⟨p, y, ws, rfl, _⟩ := h; rfl
  · obtain ⟨p, y, ws, rfl, hc, hy⟩ := h
    refine ⟨_, (pss_cons (ps_if (pt_cmpR (opNotInOwnP me_cont rfl hr (passT (takes_of rfl rfl rfl rfl) (fun _ _ _ _ h => h))) (pv 1) (pv 0) (by rfl)) (pss_one (ps_raise1 e_NoWorker hr rfl (takes_of rfl rfl rfl rfl) (pa_cons (pv 1) pa_nil))) pss_nil)
      (pss_one (ps_ret (pe_dget (hu_of hr) (KX.fld (K := K) rfl (pv 0) rfl) (pv 1) (fun _ _ => rfl))))), ?_⟩
    tm_at "s"
    obtain ⟨dx, d, t, i1, h1, _⟩ := id hc
    rcases hy with ⟨n, i, rfl, hv, k⟩ | ⟨hy, rz⟩
    · refine ⟨p, dx, _, rfl, i1, p, .str n, ws, rfl, hc, .inl ⟨n, rfl, _, rfl, ?_⟩⟩
      rw [hv, show ((some (V.int i)).isSome ^^ true) = false from rfl]
      tm_at "s"
      refine ⟨p, C, dx, _, _, rfl, i1, T.c.cl, T.nO, rfl, ?_⟩
      tm_at "s"
      exact s_dgS (.inl h1) hv k
    · rcases hy with hy | ⟨n, rfl, hv⟩
      · refine ⟨p, dx, _, rfl, i1, p, _, ws, rfl, hc, .inr ⟨hy, _, rfl, ?_⟩⟩
        rw [show (false ^^ true) = true from rfl]
        tm_at "s"
        exact s_rz rz
      · refine ⟨p, dx, _, rfl, i1, p, .str n, ws, rfl, hc, .inl ⟨n, rfl, _, rfl, ?_⟩⟩
        rw [hv, show ((none : Option V).isSome ^^ true) = true from rfl]
        tm_at "s"
        exact s_rz rz
end
end K30
end
section
local macro_rules | `(tactic| tm_at "s1") => `(tactic| first
  | with_reducible first
    | refine L3.s_seq ?_ | refine L3.s_asg ?_ | refine L3.s_op ?_ | refine L3.s_c ?_ | refine L3.s_cb ?_ | refine L3.s_cons ?_ | refine L3.s_nil ?_ | refine L3.s_test ?_ | refine L3.s_bl ?_
    | refine L3.s_I0 ?_ | refine L3.s_and ?_ | refine L3.s_or ?_ | refine L3.s_not ?_ | refine L3.s_if ?_ | refine L3.s_next ?_ | refine L3.s_ret ?_ | refine L3.s_retN ?_ | refine L3.s_asgS ?_ | refine L3.s_drop ?_
    | refine L3.s_un ?_ | refine L3.s_U ?_ | refine L3.s_int ?_ | refine L3.s_intB ?_ | refine L3.s_abs ?_ | refine L3.s_andV ?_ | refine L3.s_orV ?_ | refine L3.s_notV ?_ | refine L3.s_ifE ?_ | refine L3.s_call ?_ | refine L3.s_lst ?_ | refine L3.s_tup ?_ | refine L3.s_tB ?_
    | refine L3.s_addI ?_ | refine L3.s_inS ?_ | refine L3.s_ninS ?_ | refine L3.s_slice ?_ | refine L3.s_part ?_ | refine L3.s_partI ?_ | refine L3.s_nopart ?_ | refine L3.s_cI ?_ | refine L3.s_cB ?_ | refine L3.s_chain ?_ | refine L3.s_bm ?_ | refine L3.s_lcS ?_ | refine L3.s_lcR ?_ | refine L3.s_strE ?_
    | refine L2.iteT ?_ | refine L2.iteF ?_ | refine L3.iteNF ?_ | refine L3.iteNT ?_
    | refine L3.s_eqI ?_ | refine L3.s_neI ?_ | refine L3.s_eqS ?_ | refine L3.s_neS ?_
    | refine L3.s_pair ?_ | refine L3.s_pair2 ?_ | refine L3.s_fld ?_ | refine L3.s_make ?_ | refine L3.s_m1 ?_ | refine L3.s_isstr ?_
    | refine L3.s_xfV ?_ | refine L3.s_lcL ?_ | refine L3.s_par3 ?_ | refine L3.s_trip ?_ | refine L3.s_asgT' ?_ | refine L3.s_gC ?_ | refine L3.s_gN ?_ | refine L3.s_fldG ?_ | refine L3.s_raise1 ?_
    | refine L3.s_isN ?_ | refine L3.s_isB ?_ | refine L3.s_nisN ?_ | refine L3.s_nisB ?_
  | ((with_reducible refine' L3.s_var ?e ?_); (case e => rfl))
  | ((with_reducible refine' L3.s_aug ?e ?_); (case e => rfl))
  | ((with_reducible refine' L3.s_pow ?c ?_); (case c => exact ⟨by decide, by decide, by decide⟩)))
local macro_rules | `(tactic| tm_at "s") => `(tactic| repeat tm_at "s1")
namespace K30
open PySem PySem.Spec PyProof.Rows L2 L3 LamX
structure TxtQ (K : PySem.W.Frag) (mg : Str → Option Value) (C CB CL : Addr) : Prop where
  b_isinstance : mg "isinstance" = none
  b_int : mg "int" = none
  b_bool : mg "bool" = none
  b_len : mg "len" = none
  b_abs : mg "abs" = none
  b_list : mg "list" = none
  b_range : mg "range" = none
  b_repr : mg "repr" = none
  g_Ratio : ∃ u, mg "Ratio" = some u ∧ RelV (.ref C) u
  g_BadRatio : ∃ u, mg "BadRatio" = some u ∧ RelV (.ref CB) u
  g_LateError : mg "LateError" = some (.ref CL)
  cl : Cls K C
  nO : NoAttr K C "over"
  nU : NoAttr K C "under"
  od : odTys.all (fun T => decide (PySem.W.kitOne K (.type T) (.ref C) = some false)) = true
  kI : PySem.W.kitOne K (.type "int") (.ref C) = some false
  kC : PySem.W.kitOne K (.ref C) (.ref C) = some true
  ha : PySem.W.findIn K (.ref C) "__class__" = some (some (.builtin "object.__class__"))
  hn : PySem.W.specialIn K (.builtin "object.__class__") "__get__" = some (some (.builtin "getset_descriptor.__get__"))
  htk : PySem.W.takesIn K (.builtin "object.__class__") = some true
  hm : PySem.W.mroIn K C (.type "object") = some true
  exc : ExcC K CB
  xf : XfC K CB
  nV : PySem.W.findIn K (.ref CB) "value" = some none
  kB : PySem.W.kitOne K (.ref CB) (.ref CB) = some true
  em : PySem.W.exmOne K (.ref CB) (.ref CL) = some true
theorem TxtQ.ty {K : PySem.W.Frag} {mg : Str → Option Value} {C CB CL : Addr} (T : TxtQ K mg C CB CL) {H : Hp} {p : Addr} {o u : Int} (r : Rt C H p o u) : TyA K H (.ref p) (.ref C) := by
  obtain ⟨dx, e⟩ := r
  exact .x (.base (.ins e T.cl T.ha T.hn T.htk T.hm))
abbrev s_common : Stmt := topS 41
theorem sc_common : FnScope ["one", "other"] ["one", "other"] (defScope s_common) := ⟨rfl, rfl, rfl, by decide +kernel, rfl, by decide +kernel, by decide +kernel⟩
abbrev s_Ratio___init__ : Stmt := inClass (topS 42) 0
theorem sc_Ratio___init__ : FnScope ["self", "over", "under", "divisor", "sign"] ["self", "over", "under"] (defScope s_Ratio___init__) := ⟨rfl, rfl, rfl, by decide +kernel, rfl, by decide +kernel, by decide +kernel⟩
abbrev s_told_of : Stmt := topS 43
theorem sc_told_of : FnScope ["value"] ["value"] (defScope s_told_of) := ⟨rfl, rfl, rfl, by decide +kernel, rfl, by decide +kernel, by decide +kernel⟩
abbrev s_Ratio___add__ : Stmt := inClass (topS 42) 6
theorem sc_Ratio___add__ : FnScope ["self", "other", "told"] ["self", "other"] (defScope s_Ratio___add__) := ⟨rfl, rfl, rfl, by decide +kernel, rfl, by decide +kernel, by decide +kernel⟩
abbrev s_Ratio___radd__ : Stmt := inClass (topS 42) 7
theorem sc_Ratio___radd__ : FnScope ["self", "other", "told"] ["self", "other"] (defScope s_Ratio___radd__) := ⟨rfl, rfl, rfl, by decide +kernel, rfl, by decide +kernel, by decide +kernel⟩
section
variable {P : Program} {w : World} {K : PySem.W.Frag} {mg : Str → Option Value} {base : Heap} {C CB CL : Addr}
theorem ok_common {f : Addr} {fd : FuncData} (F : Fun K "common" "common" s_common f fd) : FnOk P w K mg base CX0 1 f fd ["one", "other"] spCommon := by
  refine funO F sc_common (fun vs H Q E h => ?_) (fun cd A fr s H vs Q E hr h => ?_)
  · obtain ⟨a, b, rfl, _⟩ := h; rfl
  · obtain ⟨a, b, rfl, k⟩ := h
    refine ⟨_, (pss_cons (ps_while (passes_of rfl) (pt_cmpR (KX.neU (K := K) rfl hr.units) (pv 1) pe_int (nomark _)) (pss_one (ps_par (by rfl) sc_common.nd (i := 0) (j := 1) rfl rfl (by decide) rfl rfl (pa_cons (pv 1) (pa_cons (pe_op op_mod (pv 0) (pv 1)) pa_nil)) (by rfl))))
      (pss_one (ps_ret (pv 0)))), ?_⟩
    tm_at "s"
    refine ⟨fun m σ' H' => ∃ x y : Nat, σ' = [some (.int x), some (.int y)] ∧ y = m ∧ Nat.gcd x y = Nat.gcd a b ∧ H' = H, ⟨b, a, b, rfl, rfl, rfl, rfl⟩, ?_⟩
    rintro m σ' H' ⟨x, y, rfl, rfl, hgcd, rfl⟩
    tm_at "s"
    refine iteB (fun h1 => ?_) (fun h1 => ?_)
    · have hy : (y : Int) ≠ 0 := by simpa using h1
      have hy' : y ≠ 0 := fun z => hy (by rw [z]; rfl)
      refine ⟨fun σ2 H2 => σ2 = [some (.int y), some (.int ((x % y : Nat) : Int))] ∧ H2 = H', ?_, ?_⟩
      · rintro σ2 H2 ⟨rfl, rfl⟩
        refine ⟨x % y, Nat.mod_lt _ (by omega), y, x % y, rfl, rfl, ?_, rfl⟩
        rw [← hgcd, Nat.gcd_comm x y, Nat.gcd_rec y x, Nat.gcd_comm]
      · tm_at "s"
        refine s_I (show (0 : Int) < (y : Int) by omega) ?_
        tm_at "s"
        exact ⟨rfl, rfl⟩
    · have hy : (y : Int) = 0 := by simpa using h1
      have hy' : y = 0 := by omega
      subst hy'
      rw [Nat.gcd_zero_right] at hgcd
      tm_at "s"
      rw [hgcd]
      exact k
theorem ok_ratio {f : Addr} {fd : FuncData} (F : FunD K "__init__" "Ratio.__init__" (defArgs s_Ratio___init__) (defBody s_Ratio___init__) (defScope s_Ratio___init__) [.int 1] [] f fd) (T : TxtQ K mg C CB CL) (c_is_integer : FnO P w K mg base CX0 1 "is_integer" ["value"] spIsI) (c_common : FnO P w K mg base CX0 1 "common" ["one", "other"] spCommon) (e_BadRatio : Er1 P w K mg base "BadRatio" CB "value") :
    FnOk P w K mg base (L2.CX P w) 3 f fd ["self", "over", "under"] (spRatio C CB) := by
  refine funDO F sc_Ratio___init__ (fun vs H Q E h => ?_) (fun cd A fr s H vs Q E hr h => ?_)
  · obtain ⟨p, dx, x, y, rfl, _⟩ := h; rfl
  · obtain ⟨p, dx, x, y, rfl, hp, hc⟩ := h
    refine ⟨_, (pss_cons (ps_if (pt_not (pt_val (pe_o c_is_integer hr pass0 (pa_cons (pv 1) pa_nil)))) (pss_one (ps_raise1 e_BadRatio hr rfl (takes_of rfl rfl rfl rfl) (pa_cons (pv 1) pa_nil))) pss_nil)
      (pss_cons (ps_if (PW.pt (pw_or (pt_not (pt_val (pe_o c_is_integer hr pass0 (pa_cons (pv 2) pa_nil)))) (pw_or1 (pt_cmpR (KX.eqU (K := K) rfl hr.units) (pv 2) pe_int (nomark _))))) (pss_one (ps_raise1 e_BadRatio hr rfl (takes_of rfl rfl rfl rfl) (pa_cons (pv 2) pa_nil))) pss_nil)
      (pss_cons (ps_set (i := 3) sc_Ratio___init__.nd rfl (Or.inl rfl) (pe_o c_common hr pass0 (pa_cons (pe_callB call_abs (by rfl) T.b_abs (by decide +kernel) (pa_cons (pv 1) pa_nil)) (pa_cons (pe_callB call_abs (by rfl) T.b_abs (by decide +kernel) (pa_cons (pv 2) pa_nil)) pa_nil))))
      (Evl.pss_cut (ps_set (i := 4) sc_Ratio___init__.nd rfl (Or.inl rfl) (pe_ifExp (pt_cmpR op_gt (pv 2) pe_int (nomark _)) pe_int (pe_un un_neg pe_int)))
      (pss_cons (ps_fld (pv 0) (pe_op op_fdivW (pe_op opMul (pv 4) (pv 1)) (pv 3)) rfl)
      (pss_one (ps_fld (pv 0) (pe_op op_fdivW (pe_op opMul (pv 4) (pv 2)) (pv 3)) rfl))))))), ?_⟩
    rcases hc with ⟨a, b, rfl, rfl, hb, hb2, k⟩ | ⟨t, hx, k⟩ | ⟨a, rfl, hy, k⟩
    · tm_at "s"
      refine ⟨_, rfl, .inl ⟨a, rfl, ?_⟩⟩
      tm_at "s"
      refine ⟨_, rfl, .inl ⟨b, rfl, ?_⟩⟩
      tm_at "s"
      refine iteD (fun z => absurd z hb) (fun _ => ?_)
      tm_at "s"
      rw [abs_nat, abs_nat]
      refine ⟨a.natAbs, b.natAbs, rfl, ?_⟩
      tm_at "s"
      refine s_cut (M := fun σ' H' => σ' = [some (.ref p), some (.int a), some (.int b), some (.int ((Nat.gcd a.natAbs b.natAbs : Nat) : Int)), some (.int (sgn b))] ∧ H' = H) ?_ ?_
      · tm_at "s"
        refine iteD (fun z => ?_) (fun z => ?_)
        · tm_at "s"
          refine ⟨?_, rfl⟩
          unfold sgn; rw [if_pos z]; rfl
        · tm_at "s"
          refine ⟨?_, rfl⟩
          unfold sgn; rw [if_neg z]; rfl
      · rintro σ' H' ⟨rfl, rfl⟩
        tm_at "s"
        refine s_mulI sgn_mul ?_
        tm_at "s"
        refine s_I (gcd_bits hb hb2 (by decide) (by decide) _) ?_
        tm_at "s"
        refine ⟨p, C, dx, [], rfl, hp, T.cl, T.nO, by decide, ?_⟩
        tm_at "s"
        refine s_mulI sgn_mul ?_
        tm_at "s"
        refine s_I (gcd_bits hb hb2 (by decide) (by decide) _) ?_
        tm_at "s"
        refine ⟨p, C, dx, _, rfl, upd_same, T.cl, T.nU, (by show 1 < 1000; decide), ?_⟩
        exact k _ (fun c hc => by rw [upd_ne hc, upd_ne hc]) upd_same
    · tm_at "s"
      refine ⟨_, rfl, .inr ⟨t, hx, ?_⟩⟩
      tm_at "s"
      exact s_rz k
    · tm_at "s"
      refine ⟨_, rfl, .inl ⟨a, rfl, ?_⟩⟩
      tm_at "s"
      rcases hy with ⟨t, hy⟩ | rfl
      · refine ⟨_, rfl, .inr ⟨t, hy, ?_⟩⟩
        tm_at "s"
        exact s_rz k
      · refine ⟨_, rfl, .inl ⟨0, rfl, ?_⟩⟩
        tm_at "s"
        refine iteD (fun _ => ?_) (fun z => absurd rfl z)
        tm_at "s"
        exact s_rz k
theorem ok_told {f : Addr} {fd : FuncData} (F : Fun K "told_of" "told_of" s_told_of f fd) (T : TxtQ K mg C CB CL) (c_is_integer : FnO P w K mg base CX0 1 "is_integer" ["value"] spIsI) (m_Ratio_1 : McO P w K mg base (L2.CX P w) 3 "Ratio" C ["self", "over", "under"] (spRatio C CB) [.int 1]) (e_BadRatio : Er1 P w K mg base "BadRatio" CB "value") :
    FnOk P w K mg base (L2.CX P w) 5 f fd ["value"] (spTold C CB) := by
  refine funO F sc_told_of (fun vs H Q E h => ?_) (fun cd A fr s H vs Q E hr h => ?_)
  · obtain ⟨x, rfl, _⟩ := h; rfl
  · obtain ⟨x, rfl, hc⟩ := h
    refine ⟨_, (pss_cons (ps_if (pt_val (pe_callB (KX.callIsi (K := K)) (by rfl) T.b_isinstance (by decide +kernel) (pa_cons (pv 0) (pa_cons (C8.pe_gc (by rfl) T.g_Ratio) pa_nil)))) (pss_one (ps_ret (pv 0))) pss_nil)
      (pss_cons (ps_if (pt_not (pt_val (pe_o c_is_integer hr pass0 (pa_cons (pv 0) pa_nil)))) (pss_one (ps_raise1 e_BadRatio hr rfl (takes_of rfl rfl rfl rfl) (pa_cons (pv 0) pa_nil))) pss_nil)
      (pss_one (ps_ret (pe_mko m_Ratio_1 hr (passT (takes_of rfl rfl rfl rfl) (fun _ _ _ _ h => h)) (pa_cons (pv 0) pa_nil)))))), ?_⟩
    rcases hc with ⟨o, u, n, k⟩ | ⟨t, hx, k⟩
    · rcases n with ⟨q, rfl, r⟩ | ⟨rfl, rfl⟩
      · tm_at "s"
        refine s_isiC (T.ty r) T.kC ?_
        tm_at "s"
        exact k q H (Ex.refl H) r
      · tm_at "s"
        refine s_isiC (.x (.base (.int o))) T.kI ?_
        tm_at "s"
        refine ⟨_, rfl, .inl ⟨o, rfl, ?_⟩⟩
        tm_at "s"
        exact s_mkR1 fun q H' _ e r => k q H' e r
    · tm_at "s"
      obtain ⟨ty, t1, t2⟩ := hx.noCls (K := K) T.od
      refine s_isiC t1 t2 ?_
      tm_at "s"
      refine ⟨_, rfl, .inr ⟨t, hx, ?_⟩⟩
      tm_at "s"
      exact s_rz k
theorem m1000 {a b : Int} (ha : a.natAbs < 2 ^ 1000) (hb : b.natAbs < 2 ^ 1000) : IntMulOk a b := (wide_mul ha hb (by decide) (by decide) (by decide)).ok
theorem m8000 {a b : Int} (ha : a.natAbs < 2 ^ 1000) (hb : b.natAbs < 2 ^ 1000) : (a * b).natAbs < 2 ^ 8000 := by
  rw [Int.natAbs_mul]
  have h1 := Nat.mul_lt_mul'' ha hb
  rw [← Nat.pow_add] at h1
  exact Nat.lt_of_lt_of_le h1 (Nat.pow_le_pow_right (by decide) (by decide))
theorem mne {a b : Int} (ha : 0 < a) (hb : 0 < b) : a * b ≠ 0 := by have := Int.mul_pos ha hb; omega
theorem ok_add {f : Addr} {fd : FuncData} (F : Fun K "__add__" "Ratio.__add__" s_Ratio___add__ f fd) (T : TxtQ K mg C CB CL) (c_told_of : FnO P w K mg base (L2.CX P w) 5 "told_of" ["value"] (spTold C CB)) (m_Ratio_2 : McO P w K mg base (L2.CX P w) 3 "Ratio" C ["self", "over", "under"] (spRatio C CB) []) :
    FnOk P w K mg base (L2.CX P w) 6 f fd ["self", "other"] (spBin gAdd C CB) := by
  refine funO F sc_Ratio___add__ (fun vs H Q E h => ?_) (fun cd A fr s H vs Q E hr h => ?_)
  · obtain ⟨p, y, o, u, rfl, _⟩ := h; rfl
  · obtain ⟨p, y, o, u, rfl, r, b, hc⟩ := h
    refine ⟨_, (pss_cons (ps_set (i := 2) sc_Ratio___add__.nd rfl (Or.inl rfl) (pe_o c_told_of hr (passT (takes_of rfl rfl rfl rfl) (fun _ _ _ _ h => h)) (pa_cons (pv 1) pa_nil)))
      (pss_one (ps_ret (pe_mko m_Ratio_2 hr (passT (takes_of rfl rfl rfl rfl) (fun _ _ _ _ h => h)) (pa_cons (pe_op opAdd (pe_op opMul (KX.fld (K := K) rfl (pv 0) rfl) (KX.fld (K := K) rfl (pv 2) rfl)) (pe_op opMul (KX.fld (K := K) rfl (pv 2) rfl) (KX.fld (K := K) rfl (pv 0) rfl))) (pa_cons (pe_op opMul (KX.fld (K := K) rfl (pv 0) rfl) (KX.fld (K := K) rfl (pv 2) rfl)) pa_nil)))))), ?_⟩
    tm_at "s"
    rcases hc with ⟨o', u', n, b', k⟩ | ⟨t, hy, k⟩
    · refine ⟨y, rfl, .inl ⟨o', u', n, fun q H' e r' => ?_⟩⟩
      have rr := r.ex e
      have fin : ∀ q H2, H' q = none → Ex H' H2 → Rt C H2 q (rO (gAdd o u o' u') (u * u')) (rU' (gAdd o u o' u') (u * u')) → Q (.ref q) H2 := fun q H2 hq e2 r2 => k q H2 (e.free hq) (e.trans e2) r2
      tm_at "s"
      obtain ⟨d1, h1⟩ := rr
      obtain ⟨d2, h2⟩ := r'
      refine ⟨p, C, d1, _, _, rfl, h1, T.cl, T.nO, rfl, ?_⟩
      tm_at "s"
      refine ⟨q, C, d2, _, _, rfl, h2, T.cl, T.nU, rfl, ?_⟩
      tm_at "s"
      refine s_mulI (m1000 b.ho b'.hu) ?_
      tm_at "s"
      refine ⟨q, C, d2, _, _, rfl, h2, T.cl, T.nO, rfl, ?_⟩
      tm_at "s"
      refine ⟨p, C, d1, _, _, rfl, h1, T.cl, T.nU, rfl, ?_⟩
      tm_at "s"
      refine s_mulI (m1000 b'.ho b.hu) ?_
      tm_at "s"
      refine ⟨p, C, d1, _, _, rfl, h1, T.cl, T.nU, rfl, ?_⟩
      tm_at "s"
      refine ⟨q, C, d2, _, _, rfl, h2, T.cl, T.nU, rfl, ?_⟩
      tm_at "s"
      refine s_mulI (m1000 b.hu b'.hu) ?_
      tm_at "s"
      exact s_mkR (mne b.pos b'.pos) (m8000 b.hu b'.hu) fin
    · refine ⟨y, rfl, .inr ⟨t, hy, k⟩⟩
theorem ok_radd {f : Addr} {fd : FuncData} (F : Fun K "__radd__" "Ratio.__radd__" s_Ratio___radd__ f fd) (T : TxtQ K mg C CB CL) (c_told_of : FnO P w K mg base (L2.CX P w) 5 "told_of" ["value"] (spTold C CB)) (m_Ratio_2 : McO P w K mg base (L2.CX P w) 3 "Ratio" C ["self", "over", "under"] (spRatio C CB) []) :
    FnOk P w K mg base (L2.CX P w) 6 f fd ["self", "other"] (spBin gAdd C CB) := by
  refine funO F sc_Ratio___radd__ (fun vs H Q E h => ?_) (fun cd A fr s H vs Q E hr h => ?_)
  · obtain ⟨p, y, o, u, rfl, _⟩ := h; rfl
  · obtain ⟨p, y, o, u, rfl, r, b, hc⟩ := h
    refine ⟨_, (pss_cons (ps_set (i := 2) sc_Ratio___radd__.nd rfl (Or.inl rfl) (pe_o c_told_of hr (passT (takes_of rfl rfl rfl rfl) (fun _ _ _ _ h => h)) (pa_cons (pv 1) pa_nil)))
      (pss_one (ps_ret (pe_mko m_Ratio_2 hr (passT (takes_of rfl rfl rfl rfl) (fun _ _ _ _ h => h)) (pa_cons (pe_op opAdd (pe_op opMul (KX.fld (K := K) rfl (pv 0) rfl) (KX.fld (K := K) rfl (pv 2) rfl)) (pe_op opMul (KX.fld (K := K) rfl (pv 2) rfl) (KX.fld (K := K) rfl (pv 0) rfl))) (pa_cons (pe_op opMul (KX.fld (K := K) rfl (pv 0) rfl) (KX.fld (K := K) rfl (pv 2) rfl)) pa_nil)))))), ?_⟩
    tm_at "s"
    rcases hc with ⟨o', u', n, b', k⟩ | ⟨t, hy, k⟩
    · refine ⟨y, rfl, .inl ⟨o', u', n, fun q H' e r' => ?_⟩⟩
      have rr := r.ex e
      have fin : ∀ q H2, H' q = none → Ex H' H2 → Rt C H2 q (rO (gAdd o u o' u') (u * u')) (rU' (gAdd o u o' u') (u * u')) → Q (.ref q) H2 := fun q H2 hq e2 r2 => k q H2 (e.free hq) (e.trans e2) r2
      tm_at "s"
      obtain ⟨d1, h1⟩ := rr
      obtain ⟨d2, h2⟩ := r'
      refine ⟨p, C, d1, _, _, rfl, h1, T.cl, T.nO, rfl, ?_⟩
      tm_at "s"
      refine ⟨q, C, d2, _, _, rfl, h2, T.cl, T.nU, rfl, ?_⟩
      tm_at "s"
      refine s_mulI (m1000 b.ho b'.hu) ?_
      tm_at "s"
      refine ⟨q, C, d2, _, _, rfl, h2, T.cl, T.nO, rfl, ?_⟩
      tm_at "s"
      refine ⟨p, C, d1, _, _, rfl, h1, T.cl, T.nU, rfl, ?_⟩
      tm_at "s"
      refine s_mulI (m1000 b'.ho b.hu) ?_
      tm_at "s"
      refine ⟨p, C, d1, _, _, rfl, h1, T.cl, T.nU, rfl, ?_⟩
      tm_at "s"
      refine ⟨q, C, d2, _, _, rfl, h2, T.cl, T.nU, rfl, ?_⟩
      tm_at "s"
      refine s_mulI (m1000 b.hu b'.hu) ?_
      tm_at "s"
      exact s_mkR (mne b.pos b'.pos) (m8000 b.hu b'.hu) fin
    · refine ⟨y, rfl, .inr ⟨t, hy, k⟩⟩
end
end K30
end
section
set_option exponentiation.threshold 2000
namespace L3
open PySem PySem.NumText PySem.Spec PyProof.Rows L2 LamX RZ
theorem nb_mul {x y : Int} {A B : Nat} (hx : x.natAbs ≤ A) (hy : y.natAbs ≤ B) : (x * y).natAbs ≤ A * B := by rw [Int.natAbs_mul]; exact Nat.mul_le_mul hx hy
theorem nb_add {x y : Int} {A B : Nat} (hx : x.natAbs ≤ A) (hy : y.natAbs ≤ B) : (x + y).natAbs ≤ A + B := Nat.le_trans (Int.natAbs_add_le x y) (Nat.add_le_add hx hy)
theorem nb_sub {x y : Int} {A B : Nat} (hx : x.natAbs ≤ A) (hy : y.natAbs ≤ B) : (x - y).natAbs ≤ A + B := by omega
theorem rO_nb {a b : Int} (hb : b ≠ 0) : (rO a b).natAbs ≤ a.natAbs := by
  obtain ⟨k, hk, h1, _⟩ := r_scale (a := a) hb
  have e : a.natAbs = (rO a b).natAbs * k.natAbs := by rw [← Int.natAbs_mul, ← h1]
  have := Nat.le_mul_of_pos_right (rO a b).natAbs (Int.natAbs_pos.mpr hk)
  omega
theorem rU_nb {a b : Int} (hb : b ≠ 0) : (rU' a b).natAbs ≤ b.natAbs := by
  obtain ⟨k, hk, _, h2⟩ := r_scale (a := a) hb
  have e : b.natAbs = (rU' a b).natAbs * k.natAbs := by rw [← Int.natAbs_mul, ← h2]
  have := Nat.le_mul_of_pos_right (rU' a b).natAbs (Int.natAbs_pos.mpr hk)
  omega
def LB : Nat := 10 ^ 200
theorem lb_1000 {x : Int} (h : x.natAbs ≤ LB) : x.natAbs < 2 ^ 1000 := Nat.lt_of_le_of_lt h (by decide +kernel)
theorem lb_le {x : Int} {A : Nat} (h : x.natAbs ≤ A) (hA : A ≤ LB := by decide +kernel) : x.natAbs < 2 ^ 1000 := lb_1000 (Nat.le_trans h hA)
section
variable {H : Hp} {Q : VK}
theorem s_mulP {i j : Int} {A B : Nat} (hi : i.natAbs ≤ A) (hj : j.natAbs ≤ B) (h : Q (.int (i * j)) H) (hA : A ≤ LB := by decide +kernel) (hB : B ≤ LB := by decide +kernel) : rMulU (.int i) (.int j) H Q := s_mulW (lb_le hi hA) (lb_le hj hB) (by decide) (by decide) (by decide) h
end
/-- a fraction's parts within bounds -/
structure Bn (A B : Nat) (q : Int × Int) : Prop where
  o : q.1.natAbs ≤ A
  u : q.2.natAbs ≤ B
  pos : 0 < q.2
theorem Bn.bd {A B : Nat} {q : Int × Int} (h : Bn A B q) (hA : A ≤ LB := by decide +kernel) (hB : B ≤ LB := by decide +kernel) : Bd q.1 q.2 := ⟨lb_le h.o hA, lb_le h.u hB, h.pos⟩
/-- Ratio(a, b) -/
def mkR (a b : Int) : Int × Int := (rO a b, rU' a b)
def addR (p q : Int × Int) : Int × Int := mkR (gAdd p.1 p.2 q.1 q.2) (p.2 * q.2)
theorem mkR_bn {a b : Int} {A B : Nat} (ha : a.natAbs ≤ A) (hb : b.natAbs ≤ B) (h0 : b ≠ 0) : Bn A B (mkR a b) := ⟨Nat.le_trans (rO_nb h0) ha, Nat.le_trans (rU_nb h0) hb, rU_pos h0⟩
theorem int_bn {a : Int} {A : Nat} (ha : a.natAbs ≤ A) : Bn A 1 (a, 1) := ⟨ha, by show Int.natAbs 1 ≤ 1; decide, by show (0 : Int) < 1; decide⟩
theorem addR_bn {p q : Int × Int} {A B C D : Nat} (hp : Bn A B p) (hq : Bn C D q) : Bn (A * D + C * B) (B * D) (addR p q) :=
  mkR_bn (nb_add (nb_mul hp.o hq.u) (nb_mul hq.o hp.u)) (nb_mul hp.u hq.u) (fun z => (Int.mul_eq_zero.mp z).elim (fun z => by have := hp.pos; omega) (fun z => by have := hq.pos; omega))
/-- what the costs and the fee of a setting can be -/
structure OkS (a b f : Int) : Prop where
  a1 : 1 ≤ a
  ab : a ≤ b
  b6 : b ≤ 60
  f0 : 0 ≤ f
  f1 : f ≤ 10 ^ 30
def extraS (ws : List (Str × Int)) (a b f rest place size : Int) : Int := place * f * maxW ws - b * size - a * (rest - size)
def lateS (ws : List (Str × Int)) (a b f rest place size : Int) : Int × Int :=
  addR (addR (mkR (b * size) (minW ws)) (mkR (extraS ws a b f rest place size) (if extraS ws a b f rest place size ≤ 0 then sumW ws else maxW ws))) (f, 1)
theorem sumW_bn : ∀ {ws : List (Str × Int)}, (∀ p ∈ ws, 1 ≤ p.2 ∧ p.2 ≤ 60) → 0 ≤ sumW ws ∧ sumW ws ≤ 60 * (ws.length : Int) ∧ (ws ≠ [] → 1 ≤ sumW ws)
  | [], _ => ⟨by decide, by decide, fun z => absurd rfl z⟩
  | p :: r, h => by
    have hp := h p (List.mem_cons_self ..)
    have ih := sumW_bn (ws := r) fun q hq => h q (List.mem_cons_of_mem _ hq)
    have e : sumW (p :: r) = p.2 + sumW r := by unfold sumW; rw [List.map_cons, List.sum_cons]
    rw [e, List.length_cons]
    refine ⟨by omega, by omega, fun _ => by omega⟩
theorem OkW.sum {ws : List (Str × Int)} (h : OkW ws) : 1 ≤ sumW ws ∧ sumW ws ≤ 480 := by
  have := sumW_bn h.sp
  have h8 := h.le
  exact ⟨this.2.2 h.ne, by omega⟩
theorem OkW.min {ws : List (Str × Int)} (h : OkW ws) : 1 ≤ minW ws ∧ minW ws ≤ 60 := by
  obtain ⟨p, hp, e⟩ := List.mem_map.mp (minW_mem h.ne)
  rw [← e]; exact h.sp p hp
theorem OkW.max {ws : List (Str × Int)} (h : OkW ws) : 1 ≤ maxW ws ∧ maxW ws ≤ 60 := by
  obtain ⟨p, hp, e⟩ := List.mem_map.mp (maxW_mem h.ne)
  rw [← e]; exact h.sp p hp
theorem nb_of {x : Int} {A : Nat} (h0 : 0 ≤ x) (h : x ≤ (A : Int)) : x.natAbs ≤ A := by omega
def stF6 (q : Addr) (ws : List (Str × Int)) (a b f : Int) : List (Str × V) := [("crew", .ref q), ("least", .int a), ("most", .int b), ("fee", .int f), ("own_slow", .int (minW ws)), ("own_fast", .int (maxW ws))]
/-- a setting: its crew's pairs, its costs, its fee -/
def St (C CW CQ : Addr) (H : Hp) (p : Addr) (ws : List (Str × Int)) (a b f : Int) : Prop := ∃ dx q l, H p = some (.ins C dx (stF6 q ws a b f ++ ([("lowest", .ref l)] : List (Str × V)))) ∧ Cw CW H q ws ∧ Rt CQ H l (lateS ws a b f 1 0 1).1 (lateS ws a b f 1 0 1).2
theorem St.exN {C CW CQ : Addr} {H H' : Hp} {p : Addr} {ws : List (Str × Int)} {a b f : Int} (h : St C CW CQ H p ws a b f) (e : ExtN H H') : St C CW CQ H' p ws a b f := by
  obtain ⟨dx, q, l, h1, h2, h3⟩ := h
  exact ⟨dx, q, l, e _ _ h1 (fun _ z => nomatch z), h2.exN e, h3.exN e⟩
theorem St.ex {C CW CQ : Addr} {H H' : Hp} {p : Addr} {ws : List (Str × Int)} {a b f : Int} (h : St C CW CQ H p ws a b f) (e : Ex H H') : St C CW CQ H' p ws a b f := h.exN e.n
/-- no rest from 1 on -/
def OutR (K : PySem.W.Frag) (H : Hp) (x : V) (m : Int) : Prop := NI K H x ∨ ∃ i, x = .int i ∧ i < m
def spSpot (K : PySem.W.Frag) (CR CC : Addr) : Sp := fun vs H Q E => ∃ x y, vs = [x, y] ∧ ((OutR K H x 1 ∧ Rz CR "value" x H E) ∨ (∃ i, x = .int i ∧ 1 ≤ i ∧ ((OutR K H y 0 ∧ Rz CC "part" (.str "place") H E) ∨ ∃ j, y = .int j ∧ 0 ≤ j ∧ Q .non H)))
def spLate (K : PySem.W.Frag) (C CW CQ CR CC CB : Addr) : Sp := fun vs H Q E => ∃ p dx q ws a b f more x y z, vs = [.ref p, x, y, z] ∧ H p = some (.ins C dx (stF6 q ws a b f ++ more)) ∧ Cw CW H q ws ∧ OkW ws ∧ OkS a b f ∧
  ((OutR K H x 1 ∧ Rz CR "value" x H E) ∨ (∃ r, x = .int r ∧ 1 ≤ r ∧ r ≤ 10 ^ 40 ∧ ((OutR K H y 0 ∧ Rz CC "part" (.str "place") H E) ∨ ∃ j, y = .int j ∧ 0 ≤ j ∧ j ≤ 10 ^ 40 ∧
    ((OutS K H z 1 r ∧ Rz CB "value" z H E) ∨ ∃ s, z = .int s ∧ 1 ≤ s ∧ s ≤ r ∧ ∀ t H', H t = none → Ex H H' → Rt CQ H' t (lateS ws a b f r j s).1 (lateS ws a b f r j s).2 → Q (.ref t) H'))))
/-- Setting(crew, least, most, fee) -/
def spSet (K : PySem.W.Frag) (C CW CQ CS CA CF : Addr) : Sp := fun vs H Q E => ∃ p dx x y z u, vs = [.ref p, x, y, z, u] ∧ H p = some (.ins C dx []) ∧
  ((NC K H (.ref CW) x ∧ Rz CS "part" (.str "crew") H E) ∨ ∃ q ws, x = .ref q ∧ q ≠ p ∧ Cw CW H q ws ∧ OkW ws ∧ ((OutS K H y 1 60 ∧ Rz CA "value" y H E) ∨ ∃ a, y = .int a ∧ 1 ≤ a ∧ a ≤ 60 ∧ ((OutS K H z a 60 ∧ Rz CA "value" z H E) ∨ ∃ b, z = .int b ∧ a ≤ b ∧ b ≤ 60 ∧
    ((OutS K H u 0 (10 ^ 30) ∧ Rz CF "value" u H E) ∨ ∃ f, u = .int f ∧ OkS a b f ∧ ∀ H', (∀ c o, c ≠ p → H c = some o → H' c = some o) → St C CW CQ H' p ws a b f → Q .non H'))))
section
variable {K : PySem.W.Frag} {H : Hp} {Q : VK} {C CW CQ CS CA CF : Addr} {E : XK}
/-- Setting(crew, a, b, f), all as can be -/
theorem s_mkSt {q : Addr} {ws : List (Str × Int)} {a b f : Int} (cw : Cw CW H q ws) (okw : OkW ws) (oks : OkS a b f) (k : ∀ p H', H p = none → Ex H H' → St C CW CQ H' p ws a b f → Q (.ref p) H') :
    ∀ p dx, H p = none → H dx = none → dx ≠ p → spSet K C CW CQ CS CA CF (.ref p :: ([.ref q, .int a, .int b, .int f] ++ [])) (upd (upd H dx (.own p)) p (.ins C dx [])) (fun v H2 => v = .non ∧ ap Q (.ref p) H2) E := fun p dx hp hd hn => by
  have kk : ∀ c o, H c = some o → (upd (upd H dx (.own p)) p (.ins C dx [])) c = some o := fun c o h => by rw [upd_ne (ne_of_none h hp), upd_ne (ne_of_none h hd)]; exact h
  have a60 : a ≤ 60 := Int.le_trans oks.ab oks.b6
  refine ⟨p, dx, _, _, _, _, rfl, upd_same, .inr ⟨q, ws, rfl, fun z => ?_, cw.ex fun c o h => kk c o h, okw, .inr ⟨a, rfl, oks.a1, a60, .inr ⟨b, rfl, oks.ab, oks.b6, .inr ⟨f, rfl, oks, fun H' k' st => ⟨rfl, k p H' hp (fun c o h => k' c o (ne_of_none h hp) (kk c o h)) st⟩⟩⟩⟩⟩⟩
  obtain ⟨dw, wd, wt, w1, _⟩ := cw
  rw [z, hp] at w1; cases w1
end
end L3
end
section
set_option exponentiation.threshold 9000
local macro_rules | `(tactic| tm_at "s1") => `(tactic| first
  | with_reducible first
    | refine L3.s_seq ?_ | refine L3.s_asg ?_ | refine L3.s_op ?_ | refine L3.s_c ?_ | refine L3.s_cb ?_ | refine L3.s_cons ?_ | refine L3.s_nil ?_ | refine L3.s_test ?_ | refine L3.s_bl ?_
    | refine L3.s_I0 ?_ | refine L3.s_and ?_ | refine L3.s_or ?_ | refine L3.s_not ?_ | refine L3.s_if ?_ | refine L3.s_next ?_ | refine L3.s_ret ?_ | refine L3.s_retN ?_ | refine L3.s_asgS ?_ | refine L3.s_drop ?_
    | refine L3.s_un ?_ | refine L3.s_U ?_ | refine L3.s_int ?_ | refine L3.s_intB ?_ | refine L3.s_abs ?_ | refine L3.s_andV ?_ | refine L3.s_orV ?_ | refine L3.s_notV ?_ | refine L3.s_ifE ?_ | refine L3.s_call ?_ | refine L3.s_lst ?_ | refine L3.s_tup ?_ | refine L3.s_tB ?_
    | refine L3.s_addI ?_ | refine L3.s_inS ?_ | refine L3.s_ninS ?_ | refine L3.s_slice ?_ | refine L3.s_part ?_ | refine L3.s_partI ?_ | refine L3.s_nopart ?_ | refine L3.s_cI ?_ | refine L3.s_cB ?_ | refine L3.s_chain ?_ | refine L3.s_bm ?_ | refine L3.s_lcS ?_ | refine L3.s_lcR ?_ | refine L3.s_strE ?_
    | refine L2.iteT ?_ | refine L2.iteF ?_ | refine L3.iteNF ?_ | refine L3.iteNT ?_
    | refine L3.s_eqI ?_ | refine L3.s_neI ?_ | refine L3.s_eqS ?_ | refine L3.s_neS ?_
    | refine L3.s_pair ?_ | refine L3.s_pair2 ?_ | refine L3.s_fld ?_ | refine L3.s_make ?_ | refine L3.s_m1 ?_ | refine L3.s_isstr ?_
    | refine L3.s_xfV ?_ | refine L3.s_lstN ?_ | refine L3.s_callF ?_ | refine L3.s_lcL ?_ | refine L3.s_par3 ?_ | refine L3.s_trip ?_ | refine L3.s_asgT' ?_ | refine L3.s_gC ?_ | refine L3.s_gN ?_ | refine L3.s_fldG ?_ | refine L3.s_raise1 ?_ | refine L3.s_raise2 ?_ | refine L3.s_star ?_ | refine L3.s_mkCR ?_ | refine L3.s_lcZ ?_ | refine L3.s_forL ?_ | refine L3.s_forT ?_ | refine L3.s_gNm ?_ | refine L3.s_forE ?_ | refine L3.s_stC ?_ | refine L3.s_cmC ?_ | refine L3.s_forR1 ?_ | refine L3.s_lcTp ?_ | refine L3.s_forZ ?_ | refine L3.s_orT ?_ | refine L3.s_mt ?_ | refine L3.s_revT ?_ | refine L3.s_revL ?_ | refine L3.s_slOwn ?_ | refine L3.s_sl3 ?_ | refine L3.s_lcO ?_ | refine L3.s_stR ?_
    | refine L3.s_dcL ?_ | refine L3.s_dcT ?_ | refine L3.s_dget ?_ | refine L3.s_forET ?_ | refine L3.s_din ?_ | refine L3.s_dnin ?_ | refine L3.s_mkKV ?_
    | refine L3.s_isN ?_ | refine L3.s_isB ?_ | refine L3.s_nisN ?_ | refine L3.s_nisB ?_
  | ((with_reducible refine' L3.s_var ?e ?_); (case e => rfl))
  | ((with_reducible refine' L3.s_aug ?e ?_); (case e => rfl))
  | ((with_reducible refine' L3.s_pow ?c ?_); (case c => exact ⟨by decide, by decide, by decide⟩)))
local macro_rules | `(tactic| tm_at "s") => `(tactic| repeat tm_at "s1")
namespace K30
open PySem PySem.Spec PyProof.Rows L2 L3 LamX RZ
structure TxtS (K : PySem.W.Frag) (mg : Str → Option Value) (C CW CQ CR CC CB CS CA CF CL : Addr) : Prop where
  b_isinstance : mg "isinstance" = none
  c : ClT K mg "Setting" C
  g_Crew : ∃ u, mg "Crew" = some u ∧ RelV (.ref CW) u
  g_Ratio : ∃ u, mg "Ratio" = some u ∧ RelV (.ref CQ) u
  r : ErT K mg "BadRest" CR CL ["value"]
  k : ErT K mg "BadChunks" CC CL ["part"]
  z : ErT K mg "BadSize" CB CL ["value"]
  s : ErT K mg "BadSetting" CS CL ["part"]
  a : ErT K mg "BadCost" CA CL ["value"]
  f : ErT K mg "BadFee" CF CL ["value"]
  nC : NoAttr K C "crew"
  nL : NoAttr K C "least"
  nM : NoAttr K C "most"
  nF : NoAttr K C "fee"
  nS : NoAttr K C "own_slow"
  nU : NoAttr K C "own_fast"
  nW : NoAttr K C "lowest"
  wl : Cls K CW
  wt : ClT K mg "Crew" CW
  wS : NoAttr K CW "speed"
  wL : NoAttr K CW "slowest"
  wF : NoAttr K CW "fastest"
  g_MOST_COST : ∃ u, mg "MOST_COST" = some u ∧ RelV (.int 60) u
  g_MOST_FEE : ∃ u, mg "MOST_FEE" = some u ∧ RelV (.int (10 ^ 30)) u
section
variable {K : PySem.W.Frag} {mg : Str → Option Value} {C CW CQ CR CC CB CS CA CF CL : Addr}
theorem TxtS.g_Setting (T : TxtS K mg C CW CQ CR CC CB CS CA CF CL) : ∃ u, mg "Setting" = some u ∧ RelV (.ref C) u := T.c.g
end
abbrev s_need_spot : Stmt := topS 61
theorem sc_need_spot : FnScope ["rest", "place"] ["rest", "place"] (defScope s_need_spot) := ⟨rfl, rfl, rfl, by decide +kernel, rfl, by decide +kernel, by decide +kernel⟩
abbrev s_Setting_late_of : Stmt := inClass (topS 64) 2
theorem sc_Setting_late_of : FnScope ["self", "rest", "place", "size", "extra", "speed"] ["self", "rest", "place", "size"] (defScope s_Setting_late_of) := ⟨rfl, rfl, rfl, by decide +kernel, rfl, by decide +kernel, by decide +kernel⟩
abbrev s_Setting___init__ : Stmt := inClass (topS 64) 0
theorem sc_Setting___init__ : FnScope ["self", "crew", "least", "most", "fee"] ["self", "crew", "least", "most", "fee"] (defScope s_Setting___init__) := ⟨rfl, rfl, rfl, by decide +kernel, rfl, by decide +kernel, by decide +kernel⟩
section
variable {P : Program} {w : World} {K : PySem.W.Frag} {mg : Str → Option Value} {base : Heap} {C CW CQ CR CC CB CS CA CF CL CBR CO : Addr}
theorem ok_need_spot {f : Addr} {fd : FuncData} (F : Fun K "need_spot" "need_spot" s_need_spot f fd) (T : TxtS K mg C CW CQ CR CC CB CS CA CF CL) (c_is_integer : FnO P w K mg base CX0 1 "is_integer" ["value"] (spIsI2 K)) (e_BadRest : Er1 P w K mg base "BadRest" CR "value") (e_BadChunks : Er1 P w K mg base "BadChunks" CC "part") :
    FnOk P w K mg base (L2.CX P w) 3 f fd ["rest", "place"] (spSpot K CR CC) := by
  refine funO F sc_need_spot (fun vs H Q E h => ?_) (fun cd A fr s H vs Q E hr h => ?_)
  · obtain ⟨x, y, rfl, _⟩ := h; rfl
  · obtain ⟨x, y, rfl, hc⟩ := h
    refine ⟨_, (pss_cons (ps_if (PW.pt (pw_or (pt_not (pt_val (pe_o c_is_integer hr pass0 (pa_cons (pv 0) pa_nil)))) (pw_or1 (pt_cmpR op_lt (pv 0) pe_int (nomark _))))) (pss_one (ps_raise1 e_BadRest hr rfl (takes_of rfl rfl rfl rfl) (pa_cons (pv 0) pa_nil))) pss_nil)
      (pss_one (ps_if (PW.pt (pw_or (pt_not (pt_val (pe_o c_is_integer hr pass0 (pa_cons (pv 1) pa_nil)))) (pw_or1 (pt_cmpR op_lt (pv 1) pe_int (nomark _))))) (pss_one (ps_raise1 e_BadChunks hr rfl (takes_of rfl rfl rfl rfl) (pa_cons pe_str pa_nil))) pss_nil))), ?_⟩
    tm_at "s"
    rcases hc with ⟨ni | ⟨i, rfl, hi⟩, rz⟩ | ⟨i, rfl, hi, hc⟩
    · refine ⟨_, rfl, .inr ⟨ni, ?_⟩⟩
      tm_at "s"
      exact s_rz rz
    · refine ⟨_, rfl, .inl ⟨i, rfl, ?_⟩⟩
      tm_at "s"
      refine iteD (fun _ => ?_) (fun z => absurd hi z)
      tm_at "s"
      exact s_rz rz
    · refine ⟨_, rfl, .inl ⟨i, rfl, ?_⟩⟩
      tm_at "s"
      refine iteD (fun z => absurd z (by omega)) (fun _ => ?_)
      tm_at "s"
      rcases hc with ⟨ni | ⟨j, rfl, hj⟩, rz⟩ | ⟨j, rfl, hj, k⟩
      · refine ⟨_, rfl, .inr ⟨ni, ?_⟩⟩
        tm_at "s"
        exact s_rz rz
      · refine ⟨_, rfl, .inl ⟨j, rfl, ?_⟩⟩
        tm_at "s"
        refine iteD (fun _ => ?_) (fun z => absurd hj z)
        tm_at "s"
        exact s_rz rz
      · refine ⟨_, rfl, .inl ⟨j, rfl, ?_⟩⟩
        tm_at "s"
        refine iteD (fun z => absurd z (by omega)) (fun _ => ?_)
        tm_at "s"
        exact k
theorem ok_late_of {f : Addr} {fd : FuncData} (F : Fun K "late_of" "Setting.late_of" s_Setting_late_of f fd) (T : TxtS K mg C CW CQ CR CC CB CS CA CF CL) (c_need_spot : FnO P w K mg base (L2.CX P w) 3 "need_spot" ["rest", "place"] (spSpot K CR CC)) (c_is_within : FnO P w K mg base CX0 2 "is_within" ["value", "least", "most"] (spWithin2 K))
    (m_Ratio_2 : McO P w K mg base (L2.CX P w) 3 "Ratio" CQ ["self", "over", "under"] (spRatio CQ CBR) []) (c_add : BinM P w K mg base CQ .Add 6 (spBin gAdd CQ CBR) (spBin gAdd CQ CBR)) (e_BadSize : Er1 P w K mg base "BadSize" CB "value") :
    FnOk P w K mg base (L2.CX P w) 8 f fd ["self", "rest", "place", "size"] (spLate K C CW CQ CR CC CB) := by
  refine funO F sc_Setting_late_of (fun vs H Q E h => ?_) (fun cd A fr s H vs Q E hr h => ?_)
  · obtain ⟨p, dx, q, ws, a, b, f, more, x, y, z, rfl, _⟩ := h; rfl
  · obtain ⟨p, dx, q, ws, a, b, f, more, x, y, z, rfl, hp, hw, okw, oks, hc⟩ := h
    refine ⟨_, (pss_cons (ps_expr (pe_o c_need_spot hr (passT (takes_of rfl rfl rfl rfl) (fun _ _ _ _ h => h)) (pa_cons (pv 1) (pa_cons (pv 2) pa_nil))))
      (pss_cons (ps_if (pt_not (pt_val (pe_o c_is_within hr pass0 (pa_cons (pv 3) (pa_cons pe_int (pa_cons (pv 1) pa_nil)))))) (pss_one (ps_raise1 e_BadSize hr rfl (takes_of rfl rfl rfl rfl) (pa_cons (pv 3) pa_nil))) pss_nil)
      (pss_cons (ps_set (i := 4) sc_Setting_late_of.nd rfl (Or.inl rfl) (pe_op op_sub (pe_op op_sub (pe_op opMul (pe_op opMul (pv 2) (KX.fld (K := K) rfl (pv 0) rfl)) (KX.fld (K := K) rfl (pv 0) rfl)) (pe_op opMul (KX.fld (K := K) rfl (pv 0) rfl) (pv 3))) (pe_op opMul (KX.fld (K := K) rfl (pv 0) rfl) (pe_op op_sub (pv 1) (pv 3)))))
      (Evl.pss_cut (ps_set (i := 5) sc_Setting_late_of.nd rfl (Or.inl rfl) (pe_ifExp (pt_cmpR op_le (pv 4) pe_int (nomark _)) (KX.fld (K := K) rfl (KX.fld (K := K) rfl (pv 0) rfl) rfl) (KX.fld (K := K) rfl (pv 0) rfl)))
      (pss_one (ps_ret (pe_op (opBin opK_add c_add hr (passT (takes_of rfl rfl rfl rfl) (fun _ _ _ _ h => h))) (pe_op (opBin opK_add c_add hr (passT (takes_of rfl rfl rfl rfl) (fun _ _ _ _ h => h))) (pe_mko m_Ratio_2 hr (passT (takes_of rfl rfl rfl rfl) (fun _ _ _ _ h => h)) (pa_cons (pe_op opMul (KX.fld (K := K) rfl (pv 0) rfl) (pv 3)) (pa_cons (KX.fld (K := K) rfl (pv 0) rfl) pa_nil))) (pe_mko m_Ratio_2 hr (passT (takes_of rfl rfl rfl rfl) (fun _ _ _ _ h => h)) (pa_cons (pv 4) (pa_cons (pv 5) pa_nil)))) (KX.fld (K := K) rfl (pv 0) rfl)))))))), ?_⟩
    tm_at "s"
    rcases hc with ⟨ho, rz⟩ | ⟨r, rfl, r1, r2, hc⟩
    · exact ⟨_, _, rfl, .inl ⟨ho, rz⟩⟩
    rcases hc with ⟨ho, rz⟩ | ⟨j, rfl, j1, j2, hc⟩
    · exact ⟨_, _, rfl, .inr ⟨r, rfl, r1, .inl ⟨ho, rz⟩⟩⟩
    refine ⟨_, _, rfl, .inr ⟨r, rfl, r1, .inr ⟨j, rfl, j1, ?_⟩⟩⟩
    tm_at "s"
    rcases hc with ⟨ho, rz⟩ | ⟨s, rfl, s1, s2, k⟩
    · refine ⟨_, _, _, rfl, .inr ⟨ho, ?_⟩⟩
      tm_at "s"
      exact s_rz rz
    refine ⟨_, _, _, rfl, .inl ⟨s, rfl, s1, s2, ?_⟩⟩
    tm_at "s"
    have mn := okw.min
    have mx := okw.max
    have su := okw.sum
    have bj : j.natAbs ≤ 10 ^ 40 := nb_of j1 (by rw [show (((10 ^ 40 : Nat) : Int)) = 10 ^ 40 by decide +kernel]; exact j2)
    have br : r.natAbs ≤ 10 ^ 40 := nb_of (by omega) (by rw [show (((10 ^ 40 : Nat) : Int)) = 10 ^ 40 by decide +kernel]; exact r2)
    have bs : s.natAbs ≤ 10 ^ 40 := Nat.le_trans (by omega : s.natAbs ≤ r.natAbs) br
    have bf : f.natAbs ≤ 10 ^ 30 := nb_of oks.f0 (by rw [show (((10 ^ 30 : Nat) : Int)) = 10 ^ 30 by decide +kernel]; exact oks.f1)
    have bb : b.natAbs ≤ 60 := by have := oks.a1; have := oks.ab; have := oks.b6; omega
    have ba : a.natAbs ≤ 60 := by have := oks.a1; have := oks.ab; have := oks.b6; omega
    have bm : (maxW ws).natAbs ≤ 60 := by omega
    have bn : (minW ws).natAbs ≤ 60 := by omega
    have bu : (sumW ws).natAbs ≤ 480 := by omega
    refine ⟨p, C, dx, _, _, rfl, hp, T.c.cl, T.nF, rfl, ?_⟩
    tm_at "s"
    refine s_mulP bj bf ?_
    tm_at "s"
    refine ⟨p, C, dx, _, _, rfl, hp, T.c.cl, T.nU, rfl, ?_⟩
    refine s_mulP (nb_mul bj bf) bm ?_
    tm_at "s"
    refine ⟨p, C, dx, _, _, rfl, hp, T.c.cl, T.nM, rfl, ?_⟩
    tm_at "s"
    refine s_mulP bb bs ?_
    tm_at "s"
    refine ⟨p, C, dx, _, _, rfl, hp, T.c.cl, T.nL, rfl, ?_⟩
    tm_at "s"
    refine s_mulP ba (nb_sub br bs) ?_
    tm_at "s"
    have be : (extraS ws a b f r j s).natAbs ≤ 10 ^ 40 * 10 ^ 30 * 60 + 60 * 10 ^ 40 + 60 * (10 ^ 40 + 10 ^ 40) := nb_sub (nb_sub (nb_mul (nb_mul bj bf) bm) (nb_mul bb bs)) (nb_mul ba (nb_sub br bs))
    generalize hx : extraS ws a b f r j s = x at be
    unfold extraS at hx
    rw [hx]
    obtain ⟨dw, wd, wt, w1, w2, w3⟩ := id hw
    refine s_cut (M := fun σ' H' => σ' = [some (.ref p), some (.int r), some (.int j), some (.int s), some (.int x), some (.int (if x ≤ 0 then sumW ws else maxW ws))] ∧ H' = H) ?_ ?_
    · tm_at "s"
      refine iteD (fun z => ?_) (fun z => ?_)
      · tm_at "s"
        refine ⟨p, C, dx, _, _, rfl, hp, T.c.cl, T.nC, rfl, ?_⟩
        refine ⟨q, CW, dw, _, _, rfl, w1, T.wl, T.wS, rfl, ?_⟩
        refine ⟨?_, rfl⟩
        rw [if_pos z]; rfl
      · tm_at "s"
        refine ⟨p, C, dx, _, _, rfl, hp, T.c.cl, T.nU, rfl, ?_⟩
        refine ⟨?_, rfl⟩
        rw [if_neg z]; rfl
    rintro σ' H' ⟨rfl, rfl⟩
    have bv : (if x ≤ 0 then sumW ws else maxW ws).natAbs ≤ 480 ∧ (if x ≤ 0 then sumW ws else maxW ws) ≠ 0 := by
      split
      · exact ⟨bu, by omega⟩
      · exact ⟨by omega, by omega⟩
    tm_at "s"
    refine ⟨p, C, dx, _, _, rfl, hp, T.c.cl, T.nM, rfl, ?_⟩
    tm_at "s"
    refine s_mulP bb bs ?_
    tm_at "s"
    refine ⟨p, C, dx, _, _, rfl, hp, T.c.cl, T.nS, rfl, ?_⟩
    tm_at "s"
    refine s_mkR (by omega) (Nat.lt_trans (lb_le bn) (Nat.pow_lt_pow_right (by decide) (by decide))) fun t1 H1 nt1 e1 rt1 => ?_
    tm_at "s"
    refine s_mkR bv.2 (Nat.lt_trans (lb_le bv.1) (Nat.pow_lt_pow_right (by decide) (by decide))) fun t2 H2 nt2 e2 rt2 => ?_
    have B1 := mkR_bn (nb_mul bb bs) bn (by omega)
    have B2 := mkR_bn be bv.1 bv.2
    tm_at "s"
    refine s_bin (fun o u o' u' => by unfold gAdd; omega) (.inl ⟨t1, rfl, rt1.ex e2⟩) (.inl ⟨t2, rfl, rt2⟩) (.inl ⟨t1, rfl⟩) B1.bd B2.bd fun t3 H3 nt3 e3 rt3 => ?_
    have B3 := addR_bn B1 B2
    have e13 := (e1.trans e2).trans e3
    tm_at "s"
    refine ⟨p, C, dx, _, _, rfl, e13 _ _ hp, T.c.cl, T.nF, rfl, ?_⟩
    refine s_bin (fun o u o' u' => by unfold gAdd; omega) (.inl ⟨t3, rfl, rt3⟩) (.inr ⟨rfl, rfl⟩) (.inl ⟨t3, rfl⟩) B3.bd (int_bn bf).bd fun t4 H4 nt4 e4 rt4 => ?_
    refine k t4 H4 (e13.free nt4) (e13.trans e4) ?_
    have el : lateS ws a b f r j s = addR (addR (mkR (b * s) (minW ws)) (mkR x (if x ≤ 0 then sumW ws else maxW ws))) (f, 1) := by
      unfold lateS extraS
      rw [hx]
    rw [el]
    exact rt4
theorem ok_Setting {f : Addr} {fd : FuncData} (F : FunD K "__init__" "Setting.__init__" (defArgs s_Setting___init__) (defBody s_Setting___init__) (defScope s_Setting___init__) [.int 1, .int 1, .int 0] [] f fd) (T : TxtS K mg C CW CQ CR CC CB CS CA CF CL) (c_is_within : FnO P w K mg base CX0 2 "is_within" ["value", "least", "most"] (spWithin2 K))
    (get_i : GetM P w K mg base CW 3 ["self", "name"] (spGetW K CW CO)) (mt_late_of : Mt P w K mg base (L2.CX P w) 8 C "late_of" "self" ["rest", "place", "size"] (spLate K C CW CQ CR CC CB)) (e_BadSetting : Er1 P w K mg base "BadSetting" CS "part") (e_BadCost : Er1 P w K mg base "BadCost" CA "value") (e_BadFee : Er1 P w K mg base "BadFee" CF "value") :
    FnOk P w K mg base (L2.CX P w) 9 f fd ["self", "crew", "least", "most", "fee"] (spSet K C CW CQ CS CA CF) := by
  refine funDO F sc_Setting___init__ (fun vs H Q E h => ?_) (fun cd A fr s H vs Q E hr h => ?_)
  · obtain ⟨p, dx, x, y, z, u, rfl, _⟩ := h; rfl
  · obtain ⟨p, dx, x, y, z, u, rfl, hp, hc⟩ := h
    refine ⟨_, (pss_cons (ps_if (pt_not (pt_val (pe_callB (KX.callIsi (K := K)) (by rfl) T.b_isinstance (by decide +kernel) (pa_cons (pv 1) (pa_cons (C8.pe_gc (by rfl) T.g_Crew) pa_nil))))) (pss_one (ps_raise1 e_BadSetting hr rfl (takes_of rfl rfl rfl rfl) (pa_cons pe_str pa_nil))) pss_nil)
      (pss_cons (ps_if (pt_not (pt_val (pe_o c_is_within hr pass0 (pa_cons (pv 2) (pa_cons pe_int (pa_cons (C8.pe_gc (by rfl) T.g_MOST_COST) pa_nil)))))) (pss_one (ps_raise1 e_BadCost hr rfl (takes_of rfl rfl rfl rfl) (pa_cons (pv 2) pa_nil))) pss_nil)
      (pss_cons (ps_if (pt_not (pt_val (pe_o c_is_within hr pass0 (pa_cons (pv 3) (pa_cons (pv 2) (pa_cons (C8.pe_gc (by rfl) T.g_MOST_COST) pa_nil)))))) (pss_one (ps_raise1 e_BadCost hr rfl (takes_of rfl rfl rfl rfl) (pa_cons (pv 3) pa_nil))) pss_nil)
      (pss_cons (ps_if (pt_not (pt_val (pe_o c_is_within hr pass0 (pa_cons (pv 4) (pa_cons pe_int (pa_cons (C8.pe_gc (by rfl) T.g_MOST_FEE) pa_nil)))))) (pss_one (ps_raise1 e_BadFee hr rfl (takes_of rfl rfl rfl rfl) (pa_cons (pv 4) pa_nil))) pss_nil)
      (pss_cons (ps_fld (pv 0) (pv 1) rfl)
      (pss_cons (ps_fld (pv 0) (pv 2) rfl)
      (pss_cons (ps_fld (pv 0) (pv 3) rfl)
      (pss_cons (ps_fld (pv 0) (pv 4) rfl)
      (pss_cons (ps_fld (pv 0) (pe_ixOwn get_i hr (passT (takes_of rfl rfl rfl rfl) (fun _ _ _ _ h => h)) (pv 1) (KX.fld (K := K) rfl (pv 1) rfl)) rfl)
      (pss_cons (ps_fld (pv 0) (pe_ixOwn get_i hr (passT (takes_of rfl rfl rfl rfl) (fun _ _ _ _ h => h)) (pv 1) (KX.fld (K := K) rfl (pv 1) rfl)) rfl)
      (pss_one (ps_fld (pv 0) (pe_mt mt_late_of hr (passT (takes_of rfl rfl rfl rfl) (fun _ _ _ _ h => h)) (pv 0) (pa_cons pe_int (pa_cons pe_int (pa_cons pe_int pa_nil)))) rfl)))))))))))), ?_⟩
    tm_at "s"
    rcases hc with ⟨⟨ty, t1, t2⟩, rz⟩ | ⟨q, ws, rfl, qp, hw, okw, hc⟩
    · refine s_isiC t1 t2 ?_
      tm_at "s"
      exact s_rz rz
    obtain ⟨dw, wd, wt, w1, w2, w3⟩ := id hw
    refine s_isiC (T.wt.ty w1) T.wt.kC ?_
    tm_at "s"
    rcases hc with ⟨ho, rz⟩ | ⟨a, rfl, a1, a2, hc⟩
    · refine ⟨_, _, _, rfl, .inr ⟨ho, ?_⟩⟩
      tm_at "s"
      exact s_rz rz
    refine ⟨_, _, _, rfl, .inl ⟨a, rfl, a1, a2, ?_⟩⟩
    tm_at "s"
    rcases hc with ⟨ho, rz⟩ | ⟨b, rfl, b1, b2, hc⟩
    · refine ⟨_, _, _, rfl, .inr ⟨ho, ?_⟩⟩
      tm_at "s"
      exact s_rz rz
    refine ⟨_, _, _, rfl, .inl ⟨b, rfl, b1, b2, ?_⟩⟩
    tm_at "s"
    rcases hc with ⟨ho, rz⟩ | ⟨f, rfl, oks, k⟩
    · refine ⟨_, _, _, rfl, .inr ⟨ho, ?_⟩⟩
      tm_at "s"
      exact s_rz rz
    refine ⟨_, _, _, rfl, .inl ⟨f, rfl, oks.f0, oks.f1, ?_⟩⟩
    tm_at "s"
    have dp : wd ≠ p := fun z => by rw [z, hp] at w2; cases w2
    have tp : wt ≠ p := fun z => by rw [z, hp] at w3; cases w3
    have keepW : ∀ I : Hp, (∀ c o, c ≠ p → H c = some o → I c = some o) → Cw CW I q ws := fun I kI => ⟨dw, wd, wt, kI _ _ qp w1, kI _ _ dp w2, kI _ _ tp w3⟩
    refine ⟨p, C, dx, [], rfl, hp, T.c.cl, T.nC, by decide, ?_⟩
    tm_at "s"
    refine ⟨p, C, dx, _, rfl, upd_same, T.c.cl, T.nL, (by show 1 < 1000; decide), ?_⟩
    tm_at "s"
    refine ⟨p, C, dx, _, rfl, upd_same, T.c.cl, T.nM, (by show 2 < 1000; decide), ?_⟩
    tm_at "s"
    refine ⟨p, C, dx, _, rfl, upd_same, T.c.cl, T.nF, (by show 3 < 1000; decide), ?_⟩
    generalize hI4 : upd _ p (HO.ins C dx (putF "fee" _ _)) = I4
    have pI4 : I4 p = some (.ins C dx [("crew", .ref q), ("least", .int a), ("most", .int b), ("fee", .int f)]) := by rw [← hI4, upd_same]; rfl
    have kI4 : ∀ c o, c ≠ p → H c = some o → I4 c = some o := fun c o hc h => by rw [← hI4, upd_ne hc, upd_ne hc, upd_ne hc, upd_ne hc]; exact h
    have wI4 := keepW I4 kI4
    have vs : valV (ws.map wI) (Sum.inr (slowW ws)) = some (.int (minW ws)) := valV_mem okw.nd (firstW_mem (minW_mem okw.ne))
    have vf : valV (ws.map wI) (Sum.inr (fastW ws)) = some (.int (maxW ws)) := valV_mem okw.nd (firstW_mem (maxW_mem okw.ne))
    try dsimp only
    tm_at "s"
    refine ⟨q, CW, dw, _, _, rfl, kI4 _ _ qp w1, T.wl, T.wL, rfl, ?_⟩
    refine ⟨q, dw, _, rfl, kI4 _ _ qp w1, q, _, ws, rfl, wI4, .inl ⟨_, _, rfl, vs, ?_⟩⟩
    tm_at "s"
    refine ⟨p, C, dx, _, rfl, pI4, T.c.cl, T.nS, (by show 4 < 1000; decide), ?_⟩
    generalize hI5 : upd I4 p (HO.ins C dx _) = I5
    have pI5 : I5 p = some (.ins C dx [("crew", .ref q), ("least", .int a), ("most", .int b), ("fee", .int f), ("own_slow", .int (minW ws))]) := by rw [← hI5, upd_same]; rfl
    have kI5 : ∀ c o, c ≠ p → H c = some o → I5 c = some o := fun c o hc h => by rw [← hI5, upd_ne hc]; exact kI4 _ _ hc h
    have wI5 := keepW I5 kI5
    try dsimp only
    tm_at "s"
    refine ⟨q, CW, dw, _, _, rfl, kI5 _ _ qp w1, T.wl, T.wF, rfl, ?_⟩
    refine ⟨q, dw, _, rfl, kI5 _ _ qp w1, q, _, ws, rfl, wI5, .inl ⟨_, _, rfl, vf, ?_⟩⟩
    tm_at "s"
    refine ⟨p, C, dx, _, rfl, pI5, T.c.cl, T.nU, (by show 5 < 1000; decide), ?_⟩
    generalize hI6 : upd I5 p (HO.ins C dx _) = I6
    have pI6 : I6 p = some (.ins C dx (stF6 q ws a b f ++ [])) := by rw [← hI6, upd_same]; rfl
    have kI6 : ∀ c o, c ≠ p → H c = some o → I6 c = some o := fun c o hc h => by rw [← hI6, upd_ne hc]; exact kI5 _ _ hc h
    have wI6 := keepW I6 kI6
    try dsimp only
    tm_at "s"
    refine ⟨p, dx, _, rfl, pI6, rfl, ?_⟩
    tm_at "s"
    refine ⟨p, dx, q, ws, a, b, f, [], _, _, _, rfl, pI6, wI6, okw, oks, .inr ⟨1, rfl, by decide, by decide +kernel, .inr ⟨0, rfl, by decide, by decide +kernel, .inr ⟨1, rfl, by decide, by decide, fun t H7 nt e7 rt => ?_⟩⟩⟩⟩
    have tp2 : t ≠ p := fun z => by rw [z, pI6] at nt; cases nt
    tm_at "s"
    refine ⟨p, C, dx, _, rfl, e7 _ _ pI6, T.c.cl, T.nW, (by show 6 < 1000; decide), ?_⟩
    have kF : ∀ c o, c ≠ p → H c = some o → (upd H7 p (HO.ins C dx (stF6 q ws a b f ++ ([("lowest", .ref t)] : List (Str × V))))) c = some o := fun c o hc h => by rw [upd_ne hc]; exact e7 _ _ (kI6 _ _ hc h)
    obtain ⟨dr, r1⟩ := rt
    exact k _ kF ⟨dx, q, t, upd_same, keepW _ kF, dr, by rw [upd_ne tp2]; exact r1⟩
end
end K30
end
section
namespace PySem
open Sem (wp)
open AutoSeq1 (wpAny_loadPart')
theorem meets_enumerate_newT (l : Addr) (items : Array Value) (n : Nat) (dct : Option Addr) (sl : Array (Option Value)) :
    Meets (Builtin.«enumerate.__new__» ⟨[.type "enumerate", .ref l], []⟩) (fun _ R s => s.heap.get? l = some { cls := .type "tuple", dict := dct, data := .seq items n, slots := sl } ∧
      R (.ok (.ret (.ref (s.heap.push { cls := .type "tuple_iterator", data := .fields #[.ref l, .int 0 0] }).objs.size)))
        { s with heap := (s.heap.push { cls := .type "tuple_iterator", data := .fields #[.ref l, .int 0 0] }).push { cls := .type "enumerate", data := .fields #[.none, .bool false, .ref s.heap.objs.size, rawInt 0, .none, .none] } }) :=
  .of_wp fun prog w A R s h => by
    obtain ⟨hp, g, d, tk, os⟩ := s; obtain ⟨hl, h⟩ := h
    have hsub := sub_enumerate
    have hL : Heap.IsTuple (Shared.heap ⟨hp, g, d, tk, os⟩) l items := ⟨_, hl, rfl, n, rfl⟩
    wp_walk using wpAny_loadPart' hl
    refine wpAny_stack_any fun st => wpAny_pure ?_
    split
    · rename_i c _ _ _ _ _
      cases (c == Value.type "enumerate")
      · wp_walk using wpAny_loadPart' hl, wpAny_pyIter_tuple hL
        exact ⟨_, rfl, h⟩
      · wp_walk using wpAny_loadPart' hl, wpAny_pyIter_tuple hL
        exact ⟨_, rfl, h⟩
    · wp_walk using wpAny_loadPart' hl, wpAny_pyIter_tuple hL
      exact ⟨_, rfl, h⟩
theorem call_enumerate_tuple {prog : Program} {w : World} {A : Around} {E : Value → Shared → Prop} {s : Shared} {l : Addr} {items : Array Value} {Q : Value → Shared → Prop} (hL : s.heap.IsTuple l items)
    (h : ∀ h', IsEnum h' (s.heap.objs.size + 1) s.heap.objs.size 0 .none → h'.IsTupleIter s.heap.objs.size l 0 → h'.objs.size = s.heap.objs.size + 2 →
      (∀ b o, s.heap.get? b = some o → h'.get? b = some o) → Q (.ref (s.heap.objs.size + 1)) { s with heap := h' }) :
    wpAny (model prog w) A (call (.type "enumerate") [.ref l]) Q E s := by
  obtain ⟨⟨c, dct, dt, sl⟩, hl, hc, n, hd⟩ := hL
  replace hc : c = .type "tuple" := hc
  replace hd : dt = .seq items n := hd
  subst hc hd
  refine callType_new F.called_enumerate (by decide) (F.typeCall_enumerate_1 _) (F.newCall_enumerate_1 _) (fun obj => F.args_object_init_2 obj _) F.entry_enumerate_new
    (meets_enumerate_newT l items n dct sl) ⟨hl, ?_⟩
  have hz : (s.heap.push { cls := .type "tuple_iterator", data := .fields #[.ref l, .int 0 0] }).objs.size = s.heap.objs.size + 1 := Heap.size_push ..
  show _ ∧ _
  rw [hz]
  have he : IsEnum ((s.heap.push { cls := .type "tuple_iterator", data := .fields #[.ref l, .int 0 0] }).push
      { cls := .type "enumerate", data := .fields #[.none, .bool false, .ref s.heap.objs.size, rawInt 0, .none, .none] }) (s.heap.objs.size + 1) s.heap.objs.size 0 .none := by
    have := Heap.get?_push_size (s.heap.push { cls := .type "tuple_iterator", data := .fields #[.ref l, .int 0 0] })
      (o := { cls := .type "enumerate", data := .fields #[.none, .bool false, .ref s.heap.objs.size, rawInt 0, .none, .none] }) rfl
    rw [hz] at this; exact this
  refine ⟨⟨_, he, rfl⟩, h _ he ⟨_, Heap.get?_push_of_some _ (Heap.get?_push_size _ rfl), rfl, rfl⟩ (by rw [Heap.size_push, hz]) fun b o x => Heap.get?_push_of_some _ (Heap.get?_push_of_some _ x)⟩
end PySem
namespace L3
open PySem PySem.Spec PyProof.Rows L2
def Itet (K : PySem.W.Frag) (a : Addr) : It :=
  ⟨fun i H => ∃ (xs : List V) (x : V), SqT K H a xs ∧ xs[i]? = some x, fun i H v H' => ∃ T x, v = .ref T ∧ H T = none ∧ H' = upd H T (.tup [.int (i : Nat), x]) ∧ ∀ xs, SqT K H a xs → xs[i]? = some x, fun i H => ∃ xs : List V, SqT K H a xs ∧ xs.length = i⟩
theorem turn_enumT {P : Program} {w : World} {K : PySem.W.Frag} {elts : List Expr} {kk : Nat} {tpos : Pos} (a e it : Addr) :
    Turn P w K (.Tuple elts kk tpos) (Itet K a) [e, it] e (fun i h => (∃ old, IsEnum h e it ((i : Nat) : Int) old) ∧ h.IsTupleIter it a i ∧ e ≠ it ∧ a ≠ e ∧ a ≠ it) where
  mem := by simp
  obj := fun i h st b hb => by
    obtain ⟨⟨old, he⟩, ⟨o, ho, hc, hd⟩, _⟩ := st
    have e' : b = e ∨ b = it := by simpa using hb
    rcases e' with z | z
    · rw [z]; exact ⟨_, he, fun v q => nomatch q⟩
    · rw [z]; exact ⟨o, ho, fun v q => by rw [hd] at q; cases q⟩
  keep := fun i h h' st k => let ⟨⟨old, he⟩, hi, hne⟩ := st; ⟨⟨old, k e (by simp) _ he⟩, hi.at fun o q => k it (by simp) o q, hne⟩
  item := by
    intro X hP hw hK hc i pins s σ H E I hf st hg
    subst hP hw hK
    obtain ⟨⟨old, he⟩, hit, hne, hae, hai⟩ := st
    obtain ⟨xs, x, hq, hx⟩ := hg
    obtain ⟨its, rv, p, hz⟩ := I.tuple hq
    obtain ⟨u, hu, ru⟩ := rv.get hx
    have hel : e < s.heap.objs.size := Heap.lt_size he
    have hil : it < s.heap.objs.size := by obtain ⟨_, q, _⟩ := hit; exact Heap.lt_size q
    have hi : i < its.toArray.size := by have := (List.getElem?_eq_some_iff.mp hu).1; simpa using this
    refine PySem.wpAny_pyNext_enum_itemD (PySem.Draws.tuple (A := X.A.in1) (I.ok.hd hc) it a hai its.toArray) he ⟨hit, p⟩ hi hne (by simp [hne, Ne.symm hae]) fun x' h' tk hP ho hst hT hsz hk => ?_
    obtain rfl : x' = u := by
      have : its[i]? = some x' := by simpa using hP
      rw [hu] at this; exact (Option.some.inj this).symm
    refine ⟨_, rfl, wpAny_letOwnedTupleGo_enum (s := { s with heap := h', toks := tk + 1 }) ho fun h'' he' sb => ?_⟩
    have hT2 : h''.get? s.heap.objs.size = some { cls := .type "tuple", data := .seq #[.int i tk, x'] } := (sb.2 _ (Nat.ne_of_gt hel)).trans hT
    have new : ObjOk X.prog X.w (upd H s.heap.objs.size (.tup [.int (i : Nat), x])) h'' s.heap.objs.size (.tup [.int (i : Nat), x]) :=
      ⟨by show 2 ≤ sizeLine; decide, [.int i tk, x'], .cons ⟨_, rfl⟩ (.cons ru .nil), ⟨_, hT2, rfl, _, rfl⟩⟩
    have I1 : Inv X pins σ (upd H s.heap.objs.size (.tup [.int (i : Nat), x])) { s with heap := h'', toks := tk + 1 } :=
      I.turnedNew (ch := [e, it]) (fun b ob hb q => (sb.2 b (fun z => hb (by simp [z]))).trans (hk b ob (fun z => hb (by simp [z])) (fun z => hb (by simp [z])) q)) hf (Nat.le_refl _) new
    refine ⟨.ref s.heap.objs.size, _, I1, rfl, ⟨_, x, rfl, I.hok.fresh (Nat.le_refl _), rfl, fun ys hy => by rw [I.tuple_inj hy hq]; exact hx⟩, ⟨⟨x', ?_⟩, hst.1.at fun o q => (sb.2 it (Ne.symm hne)).trans q, hne, hae, hai⟩, fun b hb => ?_⟩
    · have e1 : ((i + 1 : Nat) : Int) = (i : Int) + 1 := by omega
      rw [e1]; exact he'
    · have hb' : b < s.heap.objs.size := by
        have e' : b = e ∨ b = it := by simpa using hb
        rcases e' with z | z
        · rw [z]; exact hel
        · rw [z]; exact hil
      rw [upd_ne (Nat.ne_of_lt hb')]
      exact (hf b hb).1
  done := by
    intro X hP hw hK hc i pins s σ H E I hf st hg
    subst hP hw hK
    obtain ⟨⟨old, he⟩, hit, hne, hae, hai⟩ := st
    obtain ⟨xs, hq, hx⟩ := hg
    obtain ⟨its, rv, p, hz⟩ := I.tuple hq
    obtain ⟨f0, f1, f2, f3, f4, f5⟩ := hf it (by simp)
    have hl := rv.length
    have ei : i = its.toArray.size := by simp; omega
    subst ei
    refine PySem.wpAny_pyNext_enum_endD (PySem.Draws.tuple (A := X.A.in1) (I.ok.hd hc) it a hai its.toArray) he ⟨hit, p⟩ fun h' eb => ⟨rfl, I.turned (t' := s.toks) (fun b o hb q => eb b o hb q) f0 f1 f3 f4 f5⟩
  self := fun A i s Q E st h => let ⟨⟨_, he⟩, _⟩ := st; wpAny_pyIter_enum he h
def iEnumT (K : PySem.W.Frag) (ta : TA) : TI := fun σ H R => ta σ H fun vs H1 => ∃ a xs, vs = [.ref a] ∧ SqT K H1 a xs ∧ R (Itet K a) H1
theorem pi_enumT {X : Cx} {e : Expr} {ta : TA} {p pos tpos : Pos} {elts : List Expr} {kk : Nat} (hg : Gl X "enumerate") (hm : X.mg "enumerate" = none) (ha : PA X [e] ta) (hs : starEach [e] X.env = [(false, eval e X.env)] := by rfl) :
    PI X (.Tuple elts kk tpos) (.Call (.Name "enumerate" p) [e] [] pos) (iEnumT X.K ta) := by
  refine ⟨fun pins s σ H R I h => ?_⟩
  refine Call_ (ld_blt I hg hm boot_enumerate (PyProof.Rows.callWith_type1 (thn (ha.run pos pins s σ H _ I h) fun us s1 ⟨vs, H1, I1, r1, q1⟩ => ?_) hs rfl))
  obtain ⟨a, xs, rfl, hq, q⟩ := q1
  obtain ⟨u, rfl, hu⟩ := vals1 r1
  obtain rfl : u = Value.ref a := hu
  obtain ⟨its, rv, p', hz⟩ := I1.tuple hq
  have hal : a < s1.heap.objs.size := p'.lt
  refine PySem.call_enumerate_tuple p' fun h' he hit hsz hk => wpAny_pyIter_enum he ?_
  have I2 : Inv X pins σ H1 { s1 with heap := h' } := I1.kept (t' := s1.toks) hk
  refine ⟨s1.heap.objs.size + 1, [s1.heap.objs.size + 1, s1.heap.objs.size], _, _, H1, rfl, I2, turn_enumT a (s1.heap.objs.size + 1) s1.heap.objs.size, ⟨⟨.none, he⟩, hit, Nat.succ_ne_self _, Nat.ne_of_lt (Nat.lt_succ_of_lt hal), Nat.ne_of_lt hal⟩, fun b hb => ?_, q⟩
  have hle : s1.heap.objs.size ≤ b := by
    have e' : b = s1.heap.objs.size + 1 ∨ b = s1.heap.objs.size := by simpa using hb
    rcases e' with z | z
    · rw [z]; exact Nat.le_succ _
    · rw [z]; exact Nat.le_refl _
  exact I1.fpOk hle (I1.hok.fresh hle)
theorem walk_enumT {K : PySem.W.Frag} {a : Addr} {xs : List V} : Walk (Itet K a) xs.length (fun H => SqT K H a xs) (YPair (fun i => some (.int (i : Nat))) (fun i => xs[i]?)) := by
  refine ⟨fun i _ hi q => ⟨xs, xs[i], q, by simp [hi]⟩, fun _ q => ⟨xs, q, rfl⟩, fun i H v H' _ q y => ?_⟩
  obtain ⟨T, x, h1, h2, h3, h4⟩ := y
  exact ⟨T, .int (i : Nat), x, h1, h2, h3, rfl, h4 xs q⟩
section
variable {K : PySem.W.Frag} {σ : L2.St} {H : Hp} {Q : VK} {g : TG} {tb : TS} {D : Ends} {t : TA}
theorem s_forET (h : t σ H fun ws H1 => ∃ a xs, ws = [.ref a] ∧ SqT K H1 a xs ∧ ForJ (Itet K a) g tb D σ H1) : tFor (iEnumT K t) g tb D σ H := h
/-- for i, x in enumerate(t), t a tuple -/
theorem forEnT {a : Addr} {xs : List V} (Pv : Nat → L2.St → Hp → Prop) (h0 : Pv 0 σ H) (hs : ∀ i σ H, Pv i σ H → H a = some (.tup xs))
    (hb : ∀ (i : Nat) x T σ H, xs[i]? = some x → Pv i σ H → H T = none → ∀ H1, Ex H H1 → (∀ b, b ≠ T → H1 b = H b) → H1 T = some (.tup [.int (i : Int), x]) → g (.ref T) σ H1 fun σ2 H2 => tb { nx := Pv (i + 1), rt := D.rt, bk := D.nx, ct := Pv (i + 1) } σ2 H2)
    (he : ∀ σ H, Pv xs.length σ H → D.nx σ H) : ForJ (Itet K a) g tb D σ H :=
  for_it walk_enumT Pv h0 (fun i σ H _ h => .inl (.inl (hs i σ H h))) (fun i x σ H1 H2 hi hp hy => by
    obtain ⟨T, x', y', rfl, hT, rfl, hx, hy⟩ := hy
    cases hx
    exact hb i y' T σ H1 hy hp hT _ (ex_new hT) (fun b hb => upd_ne hb) upd_same) he
end
end L3
end
section
namespace L3
open PySem PySem.NumText PySem.Spec PyProof.Rows L2 LamX RZ
theorem sum_split (ns : List Int) (i : Nat) : ns.sum = (ns.take i).sum + (ns.drop i).sum := by
  rw [← List.sum_append, List.take_append_drop]
theorem restsOf_len (ns : List Int) : (restsOf ns).length = ns.length := by unfold restsOf; rw [List.length_map, List.length_range]
theorem restsOf_get {ns : List Int} {i : Nat} (h : i < ns.length) : (restsOf ns)[i]? = some ((ns.drop i).sum) := by
  unfold restsOf
  rw [List.getElem?_map, List.getElem?_range h]
  show some _ = _
  congr 1
  have e1 : (endsOf ns).getD i 0 = (ns.take (i + 1)).sum := by rw [List.getD_eq_getElem?_getD, endsOf_get h]; rfl
  have e2 : ns.getD i 0 = ns[i] := by rw [List.getD_eq_getElem?_getD, List.getElem?_eq_getElem h]; rfl
  have e3 : (ns.take (i + 1)).sum = (ns.take i).sum + ns[i] := by
    rw [take_snoc (List.getElem?_eq_getElem h), List.sum_append, List.sum_cons, List.sum_nil, Int.add_zero]
  have := sum_split ns i
  show ns.sum - (endsOf ns).getD i 0 + ns.getD i 0 = _
  rw [e1, e2, e3]
  omega
theorem siz_sum : ∀ {ns : List Int}, (∀ n ∈ ns, siz n) → 0 ≤ ns.sum ∧ ns.sum ≤ 10 ^ 30 * (ns.length : Int)
  | [], _ => ⟨by decide, by decide⟩
  | n :: r, h => by
    have h1 := h n (List.mem_cons_self ..)
    have ih := siz_sum (ns := r) fun m hm => h m (List.mem_cons_of_mem _ hm)
    rw [List.sum_cons, List.length_cons]
    obtain ⟨h2, h3⟩ := h1
    have e : (10 ^ 30 : Int) * ((r.length + 1 : Nat) : Int) = 10 ^ 30 * (r.length : Int) + 10 ^ 30 := by rw [Int.natCast_succ, Int.mul_add, Int.mul_one]
    rw [e]
    constructor <;> omega
/-- the rest ahead of a chunk holds it -/
theorem restC {ns : List Int} {i : Nat} {n : Int} (hs : ∀ n ∈ ns, siz n) (hl : ns.length ≤ 5000) (h : ns[i]? = some n) : 1 ≤ n ∧ n ≤ (ns.drop i).sum ∧ (ns.drop i).sum ≤ 10 ^ 40 := by
  obtain ⟨hi, e⟩ := List.getElem?_eq_some_iff.mp h
  have hn := hs n (List.mem_of_getElem? h)
  have ed : ns.drop i = n :: ns.drop (i + 1) := by rw [List.drop_eq_getElem_cons hi, e]
  have h1 := siz_sum (ns := ns.drop (i + 1)) fun m hm => hs m (List.mem_of_mem_drop hm)
  have h2 := siz_sum (ns := ns.drop i) fun m hm => hs m (List.mem_of_mem_drop hm)
  refine ⟨hn.1, by rw [ed, List.sum_cons]; omega, Int.le_trans h2.2 ?_⟩
  have h3 : ((ns.drop i).length : Int) ≤ 5000 := by rw [List.length_drop]; omega
  exact Int.le_trans (Int.mul_le_mul_of_nonneg_left h3 (by decide +kernel)) (by decide +kernel)
def lateI (ws : List (Str × Int)) (a b f : Int) (ns : List Int) (i : Nat) : Int × Int := lateS ws a b f (ns.drop i).sum (i : Int) (ns.getD i 0)
def latesF (ws : List (Str × Int)) (a b f : Int) (ns : List Int) : List (Int × Int) := (List.range ns.length).map (lateI ws a b f ns)
/-- fractions at places -/
def Rts (CQ : Addr) (H : Hp) (xs : List V) (rs : List (Int × Int)) : Prop := xs.length = rs.length ∧ ∀ (i : Nat) r, rs[i]? = some r → ∃ q, xs[i]? = some (.ref q) ∧ Rt CQ H q r.1 r.2
theorem Rt.ex2 {C : Addr} {H H' : Hp} {p : Addr} {o u : Int} (h : Rt C H p o u) (e : Ex H H') : Rt C H' p o u := h.exN e.n
theorem Rts.ex {CQ : Addr} {H H' : Hp} {xs : List V} {rs : List (Int × Int)} (h : Rts CQ H xs rs) (e : Ex H H') : Rts CQ H' xs rs := ⟨h.1, fun i r hr => let ⟨q, h1, h2⟩ := h.2 i r hr; ⟨q, h1, h2.ex2 e⟩⟩
theorem Rts.upd {CQ : Addr} {H : Hp} {l : Addr} {zs zs' : List V} {xs : List V} {rs : List (Int × Int)} (h : Rts CQ H xs rs) (hl : H l = some (.lst zs)) : Rts CQ (upd H l (.lst zs')) xs rs := ⟨h.1, fun i r hr => by
  obtain ⟨q, h1, dx, h2⟩ := h.2 i r hr
  have : q ≠ l := fun z => by rw [z, hl] at h2; cases h2
  exact ⟨q, h1, dx, by rw [upd_ne this]; exact h2⟩⟩
theorem Rts.nil {CQ : Addr} {H : Hp} : Rts CQ H [] [] := ⟨rfl, fun i r h => by cases h⟩
theorem Rts.snoc {CQ : Addr} {H : Hp} {xs : List V} {rs : List (Int × Int)} {q : Addr} {r : Int × Int} (h : Rts CQ H xs rs) (hq : Rt CQ H q r.1 r.2) : Rts CQ H (xs ++ [.ref q]) (rs ++ [r]) := by
  refine ⟨by rw [List.length_append, List.length_append, h.1]; rfl, fun i r' hr => ?_⟩
  rcases Nat.lt_or_ge i rs.length with c | c
  · rw [List.getElem?_append_left c] at hr
    obtain ⟨q', h1, h2⟩ := h.2 i r' hr
    exact ⟨q', by rw [List.getElem?_append_left (by rw [h.1]; exact c)]; exact h1, h2⟩
  · rw [List.getElem?_append_right c] at hr
    have e : i = rs.length := by
      rcases Nat.lt_or_ge 0 (i - rs.length) with d | d
      · rw [List.getElem?_eq_none (by simp; omega)] at hr; cases hr
      · omega
    subst e
    rw [Nat.sub_self] at hr
    cases hr
    exact ⟨q, by rw [List.getElem?_append_right (by rw [h.1]; exact Nat.le_refl _), h.1, Nat.sub_self]; rfl, hq⟩
structure LaA where
  (ck st cw ra : Addr)
  (cc cs cr cb cn : Addr)
def spNeedList (K : PySem.W.Frag) (A : LaA) : Sp := fun vs H Q E => ∃ x y, vs = [x, y] ∧ ((NC K H (.ref A.ck) x ∧ Rz A.cc "part" (.str "chunks") H E) ∨ ∃ p ns, x = .ref p ∧ Ck A.ck H p ns ∧
  ((NC K H (.ref A.st) y ∧ Rz A.cs "part" (.str "setting") H E) ∨ ∃ q ws a b f, y = .ref q ∧ St A.st A.cw A.ra H q ws a b f ∧ Q .non H))
def spRows (A : LaA) : Sp := fun vs H Q _ => ∃ p q ns ws a b f, vs = [.ref p, .ref q] ∧ Ck A.ck H p ns ∧ ns.length ≤ 5000 ∧ (∀ n ∈ ns, siz n) ∧ St A.st A.cw A.ra H q ws a b f ∧ OkW ws ∧ OkS a b f ∧
  ∀ l xs H', H l = none → Ex H H' → H' l = some (.lst xs) → Rts A.ra H' xs (latesF ws a b f ns) → Q (.ref l) H'
/-- what need_list refuses -/
def NoL (K : PySem.W.Frag) (A : LaA) (x y : V) (H : Hp) (E : XK) : Prop := (NC K H (.ref A.ck) x ∧ Rz A.cc "part" (.str "chunks") H E) ∨ ∃ p ns, x = .ref p ∧ Ck A.ck H p ns ∧ NC K H (.ref A.st) y ∧ Rz A.cs "part" (.str "setting") H E
end L3
end
section
local macro_rules | `(tactic| tm_at "s1") => `(tactic| first
  | with_reducible first
    | refine L3.s_seq ?_ | refine L3.s_asg ?_ | refine L3.s_op ?_ | refine L3.s_c ?_ | refine L3.s_cb ?_ | refine L3.s_cons ?_ | refine L3.s_nil ?_ | refine L3.s_test ?_ | refine L3.s_bl ?_
    | refine L3.s_I0 ?_ | refine L3.s_and ?_ | refine L3.s_or ?_ | refine L3.s_not ?_ | refine L3.s_if ?_ | refine L3.s_next ?_ | refine L3.s_ret ?_ | refine L3.s_retN ?_ | refine L3.s_asgS ?_ | refine L3.s_drop ?_
    | refine L3.s_un ?_ | refine L3.s_U ?_ | refine L3.s_int ?_ | refine L3.s_intB ?_ | refine L3.s_abs ?_ | refine L3.s_andV ?_ | refine L3.s_orV ?_ | refine L3.s_notV ?_ | refine L3.s_ifE ?_ | refine L3.s_call ?_ | refine L3.s_lst ?_ | refine L3.s_tup ?_ | refine L3.s_tB ?_
    | refine L3.s_addI ?_ | refine L3.s_inS ?_ | refine L3.s_ninS ?_ | refine L3.s_slice ?_ | refine L3.s_part ?_ | refine L3.s_partI ?_ | refine L3.s_nopart ?_ | refine L3.s_cI ?_ | refine L3.s_cB ?_ | refine L3.s_chain ?_ | refine L3.s_bm ?_ | refine L3.s_lcS ?_ | refine L3.s_lcR ?_ | refine L3.s_strE ?_
    | refine L2.iteT ?_ | refine L2.iteF ?_ | refine L3.iteNF ?_ | refine L3.iteNT ?_
    | refine L3.s_eqI ?_ | refine L3.s_neI ?_ | refine L3.s_eqS ?_ | refine L3.s_neS ?_
    | refine L3.s_pair ?_ | refine L3.s_pair2 ?_ | refine L3.s_fld ?_ | refine L3.s_make ?_ | refine L3.s_m1 ?_ | refine L3.s_isstr ?_
    | refine L3.s_xfV ?_ | refine L3.s_lstN ?_ | refine L3.s_callF ?_ | refine L3.s_lcL ?_ | refine L3.s_par3 ?_ | refine L3.s_trip ?_ | refine L3.s_asgT' ?_ | refine L3.s_gC ?_ | refine L3.s_gN ?_ | refine L3.s_fldG ?_ | refine L3.s_raise1 ?_ | refine L3.s_raise2 ?_ | refine L3.s_star ?_ | refine L3.s_mkCR ?_ | refine L3.s_lcZ ?_ | refine L3.s_forL ?_ | refine L3.s_forT ?_ | refine L3.s_gNm ?_ | refine L3.s_forE ?_ | refine L3.s_stC ?_ | refine L3.s_cmC ?_ | refine L3.s_forR1 ?_ | refine L3.s_lcTp ?_ | refine L3.s_forZ ?_ | refine L3.s_orT ?_ | refine L3.s_mt ?_ | refine L3.s_revT ?_ | refine L3.s_revL ?_ | refine L3.s_slOwn ?_ | refine L3.s_sl3 ?_ | refine L3.s_lcO ?_ | refine L3.s_stR ?_
    | refine L3.s_dcL ?_ | refine L3.s_dcT ?_ | refine L3.s_dget ?_ | refine L3.s_forET ?_ | refine L3.s_din ?_ | refine L3.s_dnin ?_ | refine L3.s_mkKV ?_
    | refine L3.s_isN ?_ | refine L3.s_isB ?_ | refine L3.s_nisN ?_ | refine L3.s_nisB ?_
  | ((with_reducible refine' L3.s_var ?e ?_); (case e => rfl))
  | ((with_reducible refine' L3.s_aug ?e ?_); (case e => rfl))
  | ((with_reducible refine' L3.s_pow ?c ?_); (case c => exact ⟨by decide, by decide, by decide⟩)))
local macro_rules | `(tactic| tm_at "s") => `(tactic| repeat tm_at "s1")
namespace K30
open PySem PySem.Spec PyProof.Rows L2 L3 LamX RZ
structure TxtL (K : PySem.W.Frag) (mg : Str → Option Value) (A : LaA) (CL : Addr) : Prop where
  b_isinstance : mg "isinstance" = none
  b_len : mg "len" = none
  b_tuple : mg "tuple" = none
  b_enumerate : mg "enumerate" = none
  c : ClT K mg "Chunks" A.ck
  s : ClT K mg "Setting" A.st
  e : ErT K mg "BadChunks" A.cc CL ["part"]
  t : ErT K mg "BadSetting" A.cs CL ["part"]
  n : ErT K mg "NoChunk" A.cn CL ["at"]
  nS : NoAttr K A.ck "sizes"
  nR : NoAttr K A.ck "rests"
section
variable {K : PySem.W.Frag} {mg : Str → Option Value} {A : LaA} {CL : Addr}
theorem TxtL.g_Chunks (T : TxtL K mg A CL) : ∃ u, mg "Chunks" = some u ∧ RelV (.ref A.ck) u := T.c.g
theorem TxtL.g_Setting (T : TxtL K mg A CL) : ∃ u, mg "Setting" = some u ∧ RelV (.ref A.st) u := T.s.g
end
abbrev s_need_list : Stmt := topS 68
theorem sc_need_list : FnScope ["chunks", "setting"] ["chunks", "setting"] (defScope s_need_list) := ⟨rfl, rfl, rfl, by decide +kernel, rfl, by decide +kernel, by decide +kernel⟩
abbrev s_rows_of : Stmt := topS 69
theorem sc_rows_of : FnScope ["chunks", "setting", "found", "at", "size"] ["chunks", "setting"] (defScope s_rows_of) := ⟨rfl, rfl, rfl, by decide +kernel, rfl, by decide +kernel, by decide +kernel⟩
section
variable {P : Program} {w : World} {K : PySem.W.Frag} {mg : Str → Option Value} {base : Heap} {A : LaA} {CL : Addr}
theorem ok_need_list {f : Addr} {fd : FuncData} (F : Fun K "need_list" "need_list" s_need_list f fd) (T : TxtL K mg A CL) (e_BadChunks : Er1 P w K mg base "BadChunks" A.cc "part") (e_BadSetting : Er1 P w K mg base "BadSetting" A.cs "part") :
    FnOk P w K mg base (L2.CX P w) 3 f fd ["chunks", "setting"] (spNeedList K A) := by
  refine funO F sc_need_list (fun vs H Q E h => ?_) (fun cd A' fr s H vs Q E hr h => ?_)
  · obtain ⟨x, y, rfl, _⟩ := h; rfl
  · obtain ⟨x, y, rfl, hc⟩ := h
    refine ⟨_, (pss_cons (ps_if (pt_not (pt_val (pe_callB (KX.callIsi (K := K)) (by rfl) T.b_isinstance (by decide +kernel) (pa_cons (pv 0) (pa_cons (C8.pe_gc (by rfl) T.g_Chunks) pa_nil))))) (pss_one (ps_raise1 e_BadChunks hr rfl (takes_of rfl rfl rfl rfl) (pa_cons pe_str pa_nil))) pss_nil)
      (pss_one (ps_if (pt_not (pt_val (pe_callB (KX.callIsi (K := K)) (by rfl) T.b_isinstance (by decide +kernel) (pa_cons (pv 1) (pa_cons (C8.pe_gc (by rfl) T.g_Setting) pa_nil))))) (pss_one (ps_raise1 e_BadSetting hr rfl (takes_of rfl rfl rfl rfl) (pa_cons pe_str pa_nil))) pss_nil))), ?_⟩
    tm_at "s"
    rcases hc with ⟨⟨ty, t1, t2⟩, rz⟩ | ⟨p, ns, rfl, ck, hc⟩
    · refine s_isiC t1 t2 ?_
      tm_at "s"
      exact s_rz rz
    obtain ⟨d1, u1, u2, u3, i1, h1, h2, h3⟩ := id ck
    refine s_isiC (T.c.ty i1) T.c.kC ?_
    tm_at "s"
    rcases hc with ⟨⟨ty, t1, t2⟩, rz⟩ | ⟨q, ws, a, b, f, rfl, st, k⟩
    · refine s_isiC t1 t2 ?_
      tm_at "s"
      exact s_rz rz
    obtain ⟨d2, _, _, i2, _⟩ := id st
    refine s_isiC (T.s.ty i2) T.s.kC ?_
    tm_at "s"
    exact k
theorem ok_rows_of {f : Addr} {fd : FuncData} (F : Fun K "rows_of" "rows_of" s_rows_of f fd) (T : TxtL K mg A CL) (mt_late_of : Mt P w K mg base (L2.CX P w) 8 A.st "late_of" "self" ["rest", "place", "size"] (spLate K A.st A.cw A.ra A.cr A.cc A.cb)) :
    FnOk P w K mg base (L2.CX P w) 9 f fd ["chunks", "setting"] (spRows A) := by
  refine funO F sc_rows_of (fun vs H Q E h => ?_) (fun cd A' fr s H vs Q E hr h => ?_)
  · obtain ⟨p, q, ns, ws, a, b, f, rfl, _⟩ := h; rfl
  · obtain ⟨p, q, ns, ws, a, b, f, rfl, ck, hl, hs, st, okw, oks, k⟩ := h
    refine ⟨_, (pss_cons (ps_set (i := 2) sc_rows_of.nd rfl (Or.inl rfl) (pe_lst pa_nil))
      (pss_cons (ps_for (passes_of rfl) rfl (pi_enumT (by rfl) T.b_enumerate (pa_cons (KX.fld (K := K) rfl (pv 0) rfl) pa_nil)) (KX.tup (K := K) rfl rfl (pgs_cons (pg_name (i := 3) sc_rows_of.nd rfl (Or.inl rfl)) (pgs_cons (pg_name (i := 4) sc_rows_of.nd rfl (Or.inl rfl)) pgs_nil))) (pss_one (ps_expr (pe_bm PySem.F.plainAttrs_list PySem.F.slot_list_append PySem.F.type_list_append mt_append (pv 2) (pa_cons (pe_mt mt_late_of hr (passT (takes_of rfl rfl rfl rfl) (fun _ _ _ _ h => h)) (pv 1) (pa_cons (pe_ix (KX.ixU (K := K)) (KX.fld (K := K) rfl (pv 0) rfl) (pv 3) (fun _ _ => rfl)) (pa_cons (pv 3) (pa_cons (pv 4) pa_nil)))) pa_nil)))))
      (pss_one (ps_ret (pv 2))))), ?_⟩
    tm_at "s"
    refine s_new (Nat.le_of_lt (small1000 (by simp))) fun l H1 nl e1 hl1 => ?_
    try dsimp only
    tm_at "s"
    obtain ⟨d1, u1, u2, u3, i1, k1, k2, k3⟩ := id (ck.ex e1)
    have st1 := st.ex e1
    have u1l : u1 ≠ l := fun z => by rw [z, hl1] at k1; cases k1
    have u3l : u3 ≠ l := fun z => by rw [z, hl1] at k3; cases k3
    have pl : p ≠ l := fun z => by rw [z, hl1] at i1; cases i1
    refine ⟨p, A.ck, d1, _, _, rfl, i1, T.c.cl, T.nS, rfl, ?_⟩
    refine ⟨u1, _, rfl, .inl (.inl k1), forEnT (fun i σ H' => ∃ v1 v2 xs, σ = [some (.ref p), some (.ref q), some (.ref l), v1, v2] ∧ H' l = some (.lst xs) ∧ Rts A.ra H' xs ((List.range i).map (lateI ws a b f ns)) ∧ ∀ c o, c ≠ l → H1 c = some o → H' c = some o) ⟨_, _, [], rfl, hl1, Rts.nil, fun _ _ _ h => h⟩ (fun i σ H' ⟨_, _, _, _, _, _, kk⟩ => kk _ _ u1l k1) ?_ ?_⟩
    · rintro i x TT _ H2 hx ⟨v1, v2, xs, rfl, h2, rts, kk⟩ nT H3 e3 k3' h3
      obtain ⟨n, hn, rfl⟩ := get_int hx
      have hi : i < ns.length := (List.getElem?_eq_some_iff.mp hn).1
      have hh := restC hs hl hn
      refine s_gT (xs := [.int (i : Int), .int n]) h3 rfl ?_
      tm_at "s"
      have k13 : ∀ c o, c ≠ l → H1 c = some o → H3 c = some o := fun c o hc h => e3 _ _ (kk c o hc h)
      refine s_tyL (e3 _ _ h2) ?_
      obtain ⟨d2, wq, lw, i2, cw, rl⟩ := id st1
      have ql : q ≠ l := fun z => by rw [z, hl1] at i2; cases i2
      tm_at "s"
      refine ⟨q, d2, _, rfl, k13 _ _ ql i2, rfl, ?_⟩
      tm_at "s"
      refine ⟨p, A.ck, d1, _, _, rfl, k13 _ _ pl i1, T.c.cl, T.nR, rfl, ?_⟩
      tm_at "s"
      refine s_iT (k13 _ _ u3l k3) (v := .int (ns.drop i).sum) (L3.atI_nat (by rw [List.getElem?_map, restsOf_get hi]; rfl)) ?_
      tm_at "s"
      have cw3 : Cw A.cw H3 wq ws := by
        obtain ⟨dw, wd, wt, w1, w2, w3⟩ := cw
        exact ⟨dw, wd, wt, k13 _ _ (fun z => by rw [z, hl1] at w1; cases w1) w1, k13 _ _ (fun z => by rw [z, hl1] at w2; cases w2) w2, k13 _ _ (fun z => by rw [z, hl1] at w3; cases w3) w3⟩
      refine ⟨q, d2, wq, ws, a, b, f, _, _, _, _, rfl, k13 _ _ ql i2, cw3, okw, oks, .inr ⟨_, rfl, Int.le_trans hh.1 hh.2.1, hh.2.2, .inr ⟨(i : Int), rfl, by omega, Int.le_trans (show (i : Int) ≤ 5000 by omega) (by decide +kernel), .inr ⟨n, rfl, hh.1, hh.2.1, fun t H4 nt e4 rt => ?_⟩⟩⟩⟩
      tm_at "s"
      have h4 := e4 _ _ (e3 _ _ h2)
      refine s_app h4 (by rw [rts.1, List.length_map, List.length_range]; exact sz100k (by omega)) ?_
      refine ⟨_, _, _, rfl, upd_same, ?_, fun c o hc h => by rw [upd_ne hc]; exact e4 _ _ (k13 c o hc h)⟩
      rw [List.range_succ, List.map_append]
      have e5 : ns.getD i 0 = n := by rw [List.getD_eq_getElem?_getD, hn]; rfl
      refine Rts.upd ((rts.ex (e3.trans e4)).snoc (r := lateI ws a b f ns i) ?_) h4
      unfold lateI
      rw [e5]
      exact rt
    · rintro _ H2 ⟨v1, v2, xs, rfl, h2, rts, kk⟩
      rw [List.length_map] at rts
      try dsimp only
      tm_at "s"
      exact k l xs H2 nl (fun c o hc => kk c o (ne_of_none hc nl) (e1 _ _ hc)) h2 rts
end
end K30
end
section
local macro_rules | `(tactic| tm_at "s1") => `(tactic| first
  | with_reducible first
    | refine L3.s_seq ?_ | refine L3.s_asg ?_ | refine L3.s_op ?_ | refine L3.s_c ?_ | refine L3.s_cb ?_ | refine L3.s_cons ?_ | refine L3.s_nil ?_ | refine L3.s_test ?_ | refine L3.s_bl ?_
    | refine L3.s_I0 ?_ | refine L3.s_and ?_ | refine L3.s_or ?_ | refine L3.s_not ?_ | refine L3.s_if ?_ | refine L3.s_next ?_ | refine L3.s_ret ?_ | refine L3.s_retN ?_ | refine L3.s_asgS ?_ | refine L3.s_drop ?_
    | refine L3.s_un ?_ | refine L3.s_U ?_ | refine L3.s_int ?_ | refine L3.s_intB ?_ | refine L3.s_abs ?_ | refine L3.s_andV ?_ | refine L3.s_orV ?_ | refine L3.s_notV ?_ | refine L3.s_ifE ?_ | refine L3.s_call ?_ | refine L3.s_lst ?_ | refine L3.s_tup ?_ | refine L3.s_tB ?_
    | refine L3.s_addI ?_ | refine L3.s_inS ?_ | refine L3.s_ninS ?_ | refine L3.s_slice ?_ | refine L3.s_part ?_ | refine L3.s_partI ?_ | refine L3.s_nopart ?_ | refine L3.s_cI ?_ | refine L3.s_cB ?_ | refine L3.s_chain ?_ | refine L3.s_bm ?_ | refine L3.s_lcS ?_ | refine L3.s_lcR ?_ | refine L3.s_strE ?_
    | refine L2.iteT ?_ | refine L2.iteF ?_ | refine L3.iteNF ?_ | refine L3.iteNT ?_
    | refine L3.s_eqI ?_ | refine L3.s_neI ?_ | refine L3.s_eqS ?_ | refine L3.s_neS ?_
    | refine L3.s_pair ?_ | refine L3.s_pair2 ?_ | refine L3.s_fld ?_ | refine L3.s_make ?_ | refine L3.s_m1 ?_ | refine L3.s_isstr ?_
    | refine L3.s_xfV ?_ | refine L3.s_lstN ?_ | refine L3.s_callF ?_ | refine L3.s_lcL ?_ | refine L3.s_par3 ?_ | refine L3.s_trip ?_ | refine L3.s_asgT' ?_ | refine L3.s_gC ?_ | refine L3.s_gN ?_ | refine L3.s_fldG ?_ | refine L3.s_raise1 ?_ | refine L3.s_raise2 ?_ | refine L3.s_star ?_ | refine L3.s_mkCR ?_ | refine L3.s_lcZ ?_ | refine L3.s_forL ?_ | refine L3.s_forT ?_ | refine L3.s_gNm ?_ | refine L3.s_forE ?_ | refine L3.s_stC ?_ | refine L3.s_cmC ?_ | refine L3.s_forR1 ?_ | refine L3.s_lcTp ?_ | refine L3.s_forZ ?_ | refine L3.s_orT ?_ | refine L3.s_mt ?_ | refine L3.s_revT ?_ | refine L3.s_revL ?_ | refine L3.s_slOwn ?_ | refine L3.s_sl3 ?_ | refine L3.s_lcO ?_ | refine L3.s_stR ?_
    | refine L3.s_dcL ?_ | refine L3.s_dcT ?_ | refine L3.s_dget ?_ | refine L3.s_forET ?_ | refine L3.s_din ?_ | refine L3.s_dnin ?_ | refine L3.s_mkKV ?_
    | refine L3.s_isN ?_ | refine L3.s_isB ?_ | refine L3.s_nisN ?_ | refine L3.s_nisB ?_
  | ((with_reducible refine' L3.s_var ?e ?_); (case e => rfl))
  | ((with_reducible refine' L3.s_aug ?e ?_); (case e => rfl))
  | ((with_reducible refine' L3.s_pow ?c ?_); (case c => exact ⟨by decide, by decide, by decide⟩)))
local macro_rules | `(tactic| tm_at "s") => `(tactic| repeat tm_at "s1")
namespace K30
open PySem PySem.Spec PyProof.Rows L2 L3 LamX
abbrev s_Ratio___lt__ : Stmt := inClass (topS 42) 18
theorem sc_Ratio___lt__ : FnScope ["self", "other", "told"] ["self", "other"] (defScope s_Ratio___lt__) := ⟨rfl, rfl, rfl, by decide +kernel, rfl, by decide +kernel, by decide +kernel⟩
abbrev s_Ratio___gt__ : Stmt := inClass (topS 42) 20
theorem sc_Ratio___gt__ : FnScope ["self", "other", "told"] ["self", "other"] (defScope s_Ratio___gt__) := ⟨rfl, rfl, rfl, by decide +kernel, rfl, by decide +kernel, by decide +kernel⟩
section
variable {P : Program} {w : World} {K : PySem.W.Frag} {mg : Str → Option Value} {base : Heap} {C CB CL : Addr}
theorem ok_lt {f : Addr} {fd : FuncData} (F : Fun K "__lt__" "Ratio.__lt__" s_Ratio___lt__ f fd) (T : TxtQ K mg C CB CL) (c_told_of : FnO P w K mg base (L2.CX P w) 5 "told_of" ["value"] (spTold C CB)) :
    FnOk P w K mg base (L2.CX P w) 6 f fd ["self", "other"] (spCmp gLt C CB) := by
  refine funO F sc_Ratio___lt__ (fun vs H Q E h => ?_) (fun cd A fr s H vs Q E hr h => ?_)
  · obtain ⟨p, y, o, u, rfl, _⟩ := h; rfl
  · obtain ⟨p, y, o, u, rfl, r, b, hc⟩ := h
    refine ⟨_, (pss_cons (ps_set (i := 2) sc_Ratio___lt__.nd rfl (Or.inl rfl) (pe_o c_told_of hr (passT (takes_of rfl rfl rfl rfl) (fun _ _ _ _ h => h)) (pa_cons (pv 1) pa_nil)))
      (pss_one (ps_ret (pe_cmpR op_lt (pe_op opMul (KX.fld (K := K) rfl (pv 0) rfl) (KX.fld (K := K) rfl (pv 2) rfl)) (pe_op opMul (KX.fld (K := K) rfl (pv 2) rfl) (KX.fld (K := K) rfl (pv 0) rfl)) (nomark _))))), ?_⟩
    tm_at "s"
    rcases hc with ⟨o', u', n, b', k⟩ | ⟨t, hy, k⟩
    · refine ⟨y, rfl, .inl ⟨o', u', n, fun q H' e r' => ?_⟩⟩
      obtain ⟨d1, h1⟩ := r.ex e
      obtain ⟨d2, h2⟩ := r'
      tm_at "s"
      refine ⟨p, C, d1, _, _, rfl, h1, T.cl, T.nO, rfl, ?_⟩
      tm_at "s"
      refine ⟨q, C, d2, _, _, rfl, h2, T.cl, T.nU, rfl, ?_⟩
      tm_at "s"
      refine s_mulI (m1000 b.ho b'.hu) ?_
      tm_at "s"
      refine ⟨q, C, d2, _, _, rfl, h2, T.cl, T.nO, rfl, ?_⟩
      tm_at "s"
      refine ⟨p, C, d1, _, _, rfl, h1, T.cl, T.nU, rfl, ?_⟩
      tm_at "s"
      refine s_mulI (m1000 b'.ho b.hu) ?_
      tm_at "s"
      exact k H' e
    · exact ⟨y, rfl, .inr ⟨t, hy, k⟩⟩
theorem ok_gt {f : Addr} {fd : FuncData} (F : Fun K "__gt__" "Ratio.__gt__" s_Ratio___gt__ f fd) (T : TxtQ K mg C CB CL) (c_told_of : FnO P w K mg base (L2.CX P w) 5 "told_of" ["value"] (spTold C CB)) :
    FnOk P w K mg base (L2.CX P w) 6 f fd ["self", "other"] (spCmp gGt C CB) := by
  refine funO F sc_Ratio___gt__ (fun vs H Q E h => ?_) (fun cd A fr s H vs Q E hr h => ?_)
  · obtain ⟨p, y, o, u, rfl, _⟩ := h; rfl
  · obtain ⟨p, y, o, u, rfl, r, b, hc⟩ := h
    refine ⟨_, (pss_cons (ps_set (i := 2) sc_Ratio___gt__.nd rfl (Or.inl rfl) (pe_o c_told_of hr (passT (takes_of rfl rfl rfl rfl) (fun _ _ _ _ h => h)) (pa_cons (pv 1) pa_nil)))
      (pss_one (ps_ret (pe_cmpR op_gt (pe_op opMul (KX.fld (K := K) rfl (pv 0) rfl) (KX.fld (K := K) rfl (pv 2) rfl)) (pe_op opMul (KX.fld (K := K) rfl (pv 2) rfl) (KX.fld (K := K) rfl (pv 0) rfl)) (nomark _))))), ?_⟩
    tm_at "s"
    rcases hc with ⟨o', u', n, b', k⟩ | ⟨t, hy, k⟩
    · refine ⟨y, rfl, .inl ⟨o', u', n, fun q H' e r' => ?_⟩⟩
      obtain ⟨d1, h1⟩ := r.ex e
      obtain ⟨d2, h2⟩ := r'
      tm_at "s"
      refine ⟨p, C, d1, _, _, rfl, h1, T.cl, T.nO, rfl, ?_⟩
      tm_at "s"
      refine ⟨q, C, d2, _, _, rfl, h2, T.cl, T.nU, rfl, ?_⟩
      tm_at "s"
      refine s_mulI (m1000 b.ho b'.hu) ?_
      tm_at "s"
      refine ⟨q, C, d2, _, _, rfl, h2, T.cl, T.nO, rfl, ?_⟩
      tm_at "s"
      refine ⟨p, C, d1, _, _, rfl, h1, T.cl, T.nU, rfl, ?_⟩
      tm_at "s"
      refine s_mulI (m1000 b'.ho b.hu) ?_
      tm_at "s"
      exact k H' e
    · exact ⟨y, rfl, .inr ⟨t, hy, k⟩⟩
end
end K30
end
section
set_option exponentiation.threshold 2000
namespace L3
open PySem PySem.NumText PySem.Spec PyProof.Rows L2 LamX RZ
theorem lateS_bd {ws : List (Str × Int)} {a b f r j s : Int} (okw : OkW ws) (oks : OkS a b f) (j1 : 0 ≤ j) (j2 : j ≤ 10 ^ 40) (s1 : 1 ≤ s) (s2 : s ≤ r) (r2 : r ≤ 10 ^ 40) : Bd (lateS ws a b f r j s).1 (lateS ws a b f r j s).2 := by
  have mn := okw.min
  have mx := okw.max
  have su := okw.sum
  have bj : j.natAbs ≤ 10 ^ 40 := nb_of j1 (by rw [show (((10 ^ 40 : Nat) : Int)) = 10 ^ 40 by decide +kernel]; exact j2)
  have br : r.natAbs ≤ 10 ^ 40 := nb_of (by omega) (by rw [show (((10 ^ 40 : Nat) : Int)) = 10 ^ 40 by decide +kernel]; exact r2)
  have bs : s.natAbs ≤ 10 ^ 40 := Nat.le_trans (by omega : s.natAbs ≤ r.natAbs) br
  have bf : f.natAbs ≤ 10 ^ 30 := nb_of oks.f0 (by rw [show (((10 ^ 30 : Nat) : Int)) = 10 ^ 30 by decide +kernel]; exact oks.f1)
  have bb : b.natAbs ≤ 60 := by have := oks.a1; have := oks.ab; have := oks.b6; omega
  have ba : a.natAbs ≤ 60 := by have := oks.a1; have := oks.ab; have := oks.b6; omega
  have bm : (maxW ws).natAbs ≤ 60 := by omega
  have bn : (minW ws).natAbs ≤ 60 := by omega
  have bu : (sumW ws).natAbs ≤ 480 := by omega
  have be : (extraS ws a b f r j s).natAbs ≤ 10 ^ 40 * 10 ^ 30 * 60 + 60 * 10 ^ 40 + 60 * (10 ^ 40 + 10 ^ 40) := nb_sub (nb_sub (nb_mul (nb_mul bj bf) bm) (nb_mul bb bs)) (nb_mul ba (nb_sub br bs))
  unfold lateS
  generalize extraS ws a b f r j s = x at be
  have bv : (if x ≤ 0 then sumW ws else maxW ws).natAbs ≤ 480 ∧ (if x ≤ 0 then sumW ws else maxW ws) ≠ 0 := by
    split
    · exact ⟨bu, by omega⟩
    · exact ⟨by omega, by omega⟩
  exact (addR_bn (addR_bn (mkR_bn (nb_mul bb bs) bn (by omega)) (mkR_bn be bv.1 bv.2)) (int_bn bf)).bd
def leR (p q : Int × Int) : Prop := p.1 * q.2 ≤ q.1 * p.2
def ltR (p q : Int × Int) : Prop := p.1 * q.2 < q.1 * p.2
theorem leR_trans_lt {p q r : Int × Int} (hq : 0 < q.2) (hr : 0 < r.2) (hp : 0 < p.2) (h1 : leR p q) (h2 : ltR q r) : ltR p r := by
  unfold leR at h1
  unfold ltR at *
  refine Int.lt_of_mul_lt_mul_right (a := q.2) ?_ (Int.le_of_lt hq)
  have a1 := Int.mul_le_mul_of_nonneg_right h1 (Int.le_of_lt hr)
  have a2 := Int.mul_lt_mul_of_pos_right h2 hp
  have e1 : p.1 * r.2 * q.2 = p.1 * q.2 * r.2 := by grind
  have e2 : q.1 * p.2 * r.2 = q.1 * r.2 * p.2 := by grind
  have e3 : r.1 * p.2 * q.2 = r.1 * q.2 * p.2 := by grind
  omega
instance (p q : Int × Int) : Decidable (ltR p q) := inferInstanceAs (Decidable (p.1 * q.2 < q.1 * p.2))
/-- the first greatest one of the fractions stands at i -/
def Fst (rs : List (Int × Int)) (i : Nat) : Prop := ∃ r : Int × Int, rs[i]? = some r ∧ (∀ (j : Nat) (s : Int × Int), rs[j]? = some s → leR s r) ∧ ∀ (j : Nat) (s : Int × Int), j < i → rs[j]? = some s → ltR s r
theorem Fst.one (r : Int × Int) : Fst [r] 0 := ⟨r, rfl, fun j s h => by
  have : s = r := by cases j with
    | zero => exact (Option.some.inj h).symm
    | succ j => cases h
  rw [this]; exact Int.le_refl _, fun j s h => absurd h (Nat.not_lt_zero j)⟩
theorem Fst.snoc {rs : List (Int × Int)} {i : Nat} {r x : Int × Int} (h : Fst rs i) (hi : rs[i]? = some r) (hp : ∀ s ∈ rs, 0 < s.2) (hx : 0 < x.2) : Fst (rs ++ [x]) (if ltR r x then rs.length else i) := by
  obtain ⟨r', h1, h2, h3⟩ := h
  rw [hi] at h1
  cases h1
  have hil := (List.getElem?_eq_some_iff.mp hi).1
  have hr := hp r (List.mem_of_getElem? hi)
  by_cases c : ltR r x
  · rw [if_pos c]
    have lt : ∀ (j : Nat) s, rs[j]? = some s → ltR s x := fun j s hs => leR_trans_lt hr hx (hp s (List.mem_of_getElem? hs)) (h2 j s hs) c
    refine ⟨x, by simp, fun j s hs => ?_, fun j s hj hs => ?_⟩
    · rcases Nat.lt_or_ge j rs.length with k | k
      · rw [List.getElem?_append_left k] at hs
        exact Int.le_of_lt (lt j s hs)
      · rw [List.getElem?_append_right k] at hs
        cases hj : j - rs.length with
        | zero => rw [hj] at hs; cases hs; exact Int.le_refl _
        | succ n => rw [hj] at hs; cases hs
    · rw [List.getElem?_append_left hj] at hs
      exact lt j s hs
  · rw [if_neg c]
    refine ⟨r, by rw [List.getElem?_append_left hil]; exact hi, fun j s hs => ?_, fun j s hj hs => ?_⟩
    · rcases Nat.lt_or_ge j rs.length with k | k
      · rw [List.getElem?_append_left k] at hs
        exact h2 j s hs
      · rw [List.getElem?_append_right k] at hs
        cases hj : j - rs.length with
        | zero => rw [hj] at hs; cases hs; exact Int.not_lt.mp c
        | succ n => rw [hj] at hs; cases hs
    · rw [List.getElem?_append_left (by omega)] at hs
      exact h3 j s hj hs
end L3
end
section
namespace GQ
open PySem PySem.SeqAt
open AutoSeq1 (wpAny_loadPart')
open MeetsSeq MeetsSeq2 MeetsSeq3 SeqRoads2
section
variable {prog : Program} {w : World} {A : Around} {R : Result → Shared → Prop}
theorem list_neLen (l b : Addr) {s : Shared} {items items2 : Array Value} {n n2 : Nat} (hl1 : s.heap.get? l = some { cls := .type "list", data := .seq items n }) (hb1 : s.heap.get? b = some { cls := .type "list", data := .seq items2 n2 })
    (hne : items.size ≠ items2.size) (fin : R (.ok (.ret (.bool true))) s) :
    wpAny (model prog w) A.in1 (Builtin.«list.__ne__» ⟨[.ref l, .ref b], []⟩) (FinOf prog w A R) (fun e s' => R (.error e) s') s := by
  obtain ⟨hp, g, d, tk, os⟩ := s
  have f3 := AutoSeq1.sub_list_list
  have hne : (items.size != items2.size) = true := by simp [hne]
  wp_walk using wpAny_loadPart' hl1, wpAny_loadPart' hb1
  exact fin
end
section
variable {prog : Program} {w : World} {A : Around} {E : Value → Shared → Prop} {s : Shared}
theorem rc_listNeLen {l b : Addr} {Q : Value → Shared → Prop} (hu : A.units < cLine) {items items2 : Array Value} {n n2 : Nat} (hl1 : s.heap.get? l = some { cls := .type "list", data := .seq items n }) (hb1 : s.heap.get? b = some { cls := .type "list", data := .seq items2 n2 })
    (hne : items.size ≠ items2.size) (fin : Q (.bool true) s) : wpAny (model prog w) A (richCompare .NotEq (.ref l) (.ref b)) Q E s := by
  refine wpAny_richCompare_same_room (op := .NotEq) ⟨_, hl1, rfl⟩ ⟨_, hb1, rfl⟩ F.slot_list_ne (call_here F.slot_list_ne ⟨_, hl1, rfl⟩ F.entry_list_ne (F.args_list_ne_2 _ _) ?_) hu
  exact list_neLen (R := wants (fun v s' => v ≠ .notImplemented ∧ Q v s') E) l b hl1 hb1 hne ⟨(fun x => nomatch x), fin⟩
end
end GQ
namespace L3
open PySem PySem.NumText PySem.Spec PyProof.Rows L2 LamX RZ
def rNeLen : R2 := fun x y H Q => ∃ a b xs ys, x = .ref a ∧ y = .ref b ∧ H a = some (.lst xs) ∧ H b = some (.lst ys) ∧ xs.length ≠ ys.length ∧ Q (.bl true) H
theorem opNeLen {X : Cx} (hu : X.A.units + 64 < cLine) : OpR X (compareOp .NotEq) rNeLen := by
  intro pins s σ H x y v u Q I rx ry ⟨a, b, xs, ys, ex, ey, ha, hb, hne, q⟩
  subst ex ey
  obtain rfl : v = Value.ref a := rx
  obtain rfl : u = Value.ref b := ry
  show wpAny (model X.prog X.w) X.A (richCompare .NotEq (.ref a) (.ref b)) (EP X pins σ Q) X.xe s
  obtain ⟨z, its, k, r, e⟩ := I.hok a _ ha
  obtain ⟨z2, its2, k2, r2, e2⟩ := I.hok b _ hb
  exact GQ.rc_listNeLen (by omega) e e2 (by rw [List.size_toArray, List.size_toArray, ← r.length, ← r2.length]; exact hne) ⟨.bl true, H, I, rfl, q⟩
def rNeUL (K : PySem.W.Frag) : R2 := fun x y H Q => rNeU K x y H Q ∨ rNeLen x y H Q
theorem opNeUL {X : Cx} {K : PySem.W.Frag} (hK : X.K = K) (hu : X.A.units + 64 < cLine) : OpR X (compareOp .NotEq) (rNeUL K) := fun pins s σ H x y v u Q I rx ry h => match h with
  | .inl h => KX.neU hK hu pins s σ H x y v u Q I rx ry h
  | .inr h => opNeLen hu pins s σ H x y v u Q I rx ry h
def rListDK : List V → Hp → VK → Prop := fun xs H Q => ∃ (a : Addr) (kvs : List (Key × V)), xs = [.ref a] ∧ Rd H a (.dK kvs) ∧ ∀ p, H p = none → Q (.ref p) (upd H p (.lst (kvs.map fun kv => kV kv.1)))
theorem callListDK {X : Cx} (hcalm : X.calm = true) : CallR X (.type "list") rListDK := call_listD hcalm
theorem s_listDK {H : Hp} {Q : VK} {a : Addr} {kvs : List (Key × V)} (ha : H a = some (.dK kvs)) (k : ∀ p H2, H p = none → Ex H H2 → H2 p = some (.lst (kvs.map fun kv => kV kv.1)) → Q (.ref p) H2) : rListDK [.ref a] H Q :=
  ⟨a, kvs, rfl, .inl ha, fun p hp => k p _ hp (ex_new hp) upd_same⟩
theorem s_dput {H : Hp} {a : Addr} {n : Str} {v : V} {kvs : List (Key × V)} {R : Hp → Prop} (ha : H a = some (.dK kvs)) (hz : kvs.length < 1000) (h : R (upd H a (.dK (putK kvs (Sum.inr n) v)))) : rSetD (.ref a) (.str n) v H R :=
  ⟨a, _, rfl, .k (k := Sum.inr n) ha (small1000 hz |> fun z => Nat.lt_of_lt_of_le hz (by rw [sizeLine_eq]; decide)), h⟩
structure FnR (P : Program) (w : World) (K : PySem.W.Frag) (mg : Str → Option Value) (base : Heap) (CX : CXT) (k : Nat) (x : Str) (ps : List Str) (sp : Sp) : Prop where
  ex : ∃ (f : Addr) (fd : FuncData), FnOk P w K mg base CX k f fd ps sp ∧ mg x = some (.ref f) ∧ PySem.W.keepIn K (.ref f) = true ∧ ∀ (s : Shared) (ws : List Value), K.In s.heap → ws.length = ps.length → BindsTo s fd ⟨[], ps.reverse.zip ws⟩ (ps.zip ws.reverse)
def spPlaceG (C : Addr) : Sp := fun vs H Q _ => ∃ l xs rs, vs = [.ref l] ∧ H l = some (.lst xs) ∧ Rts C H xs rs ∧ rs ≠ [] ∧ rs.length ≤ 5000 ∧ (∀ r ∈ rs, Bd r.1 r.2) ∧ ∀ (i : Nat) H', Ex H H' → Fst rs i → Q (.int (i : Int)) H'
def spLatG (K : PySem.W.Frag) (A : LaA) : Sp := fun vs H Q E => ∃ x y, vs = [x, y] ∧ (NoL K A x y H E ∨ ∃ p q ns ws a b f, x = .ref p ∧ y = .ref q ∧ Ck A.ck H p ns ∧ ns.length ≤ 5000 ∧ (∀ n ∈ ns, siz n) ∧ St A.st A.cw A.ra H q ws a b f ∧ OkW ws ∧ OkS a b f ∧
  ((ns = [] ∧ ∀ H', Ex H H' → Q .non H') ∨ (ns ≠ [] ∧ ∀ (i : Nat) t H', Fst (latesF ws a b f ns) i → i < ns.length → Ex H H' → Rt A.ra H' t (lateI ws a b f ns i).1 (lateI ws a b f ns i).2 → Q (.ref t) H')))
/-- Crew.of(speeds), all as can be -/
def spCrewOf (C : Addr) : Sp := fun vs H Q _ => ∃ d ws, vs = [.ref d] ∧ H d = some (.dK (ws.map wI)) ∧ OkW ws ∧ ∀ q H', H q = none → Ex H H' → Cw C H' q (srtW ws) → Q (.ref q) H'
theorem latesF_bd {ws : List (Str × Int)} {a b f : Int} {ns : List Int} (okw : OkW ws) (oks : OkS a b f) (hl : ns.length ≤ 5000) (hs : ∀ n ∈ ns, siz n) : ∀ r ∈ latesF ws a b f ns, Bd r.1 r.2 := fun r hr => by
  obtain ⟨i, hi, rfl⟩ := List.mem_map.mp hr
  have hi' : i < ns.length := List.mem_range.mp hi
  have hn := List.getElem?_eq_getElem hi'
  have hh := restC hs hl hn
  unfold lateI
  rw [List.getD_eq_getElem?_getD, hn]
  exact lateS_bd okw oks (by omega) (Int.le_trans (show (i : Int) ≤ 5000 by omega) (by decide +kernel)) hh.1 hh.2.1 hh.2.2
def plF (d : Addr) (a b f : Int) : List (Key × V) := [(Sum.inr "speeds", .ref d), (Sum.inr "least", .int a), (Sum.inr "most", .int b), (Sum.inr "fee", .int f)]
def Plan (H : Hp) (p : Addr) (ws : List (Str × Int)) (a b f : Int) : Prop := ∃ d, H p = some (.dK (plF d a b f)) ∧ H d = some (.dK (ws.map wI))
theorem Plan.exN {H H' : Hp} {p : Addr} {ws : List (Str × Int)} {a b f : Int} (h : Plan H p ws a b f) (e : ExtN H H') : Plan H' p ws a b f := by
  obtain ⟨d, h1, h2⟩ := h
  exact ⟨d, e _ _ h1 (fun _ z => nomatch z), e _ _ h2 (fun _ z => nomatch z)⟩
theorem Plan.ex {H H' : Hp} {p : Addr} {ws : List (Str × Int)} {a b f : Int} (h : Plan H p ws a b f) (e : Ex H H') : Plan H' p ws a b f := h.exN e.n
end L3
end
section
local macro_rules | `(tactic| tm_at "s1") => `(tactic| first
  | with_reducible first
    | refine L3.s_seq ?_ | refine L3.s_asg ?_ | refine L3.s_op ?_ | refine L3.s_c ?_ | refine L3.s_cb ?_ | refine L3.s_cons ?_ | refine L3.s_nil ?_ | refine L3.s_test ?_ | refine L3.s_bl ?_
    | refine L3.s_I0 ?_ | refine L3.s_and ?_ | refine L3.s_or ?_ | refine L3.s_not ?_ | refine L3.s_if ?_ | refine L3.s_next ?_ | refine L3.s_ret ?_ | refine L3.s_retN ?_ | refine L3.s_asgS ?_ | refine L3.s_drop ?_
    | refine L3.s_un ?_ | refine L3.s_U ?_ | refine L3.s_int ?_ | refine L3.s_intB ?_ | refine L3.s_abs ?_ | refine L3.s_andV ?_ | refine L3.s_orV ?_ | refine L3.s_notV ?_ | refine L3.s_ifE ?_ | refine L3.s_call ?_ | refine L3.s_lst ?_ | refine L3.s_tup ?_ | refine L3.s_tB ?_
    | refine L3.s_addI ?_ | refine L3.s_inS ?_ | refine L3.s_ninS ?_ | refine L3.s_slice ?_ | refine L3.s_part ?_ | refine L3.s_partI ?_ | refine L3.s_nopart ?_ | refine L3.s_cI ?_ | refine L3.s_cB ?_ | refine L3.s_chain ?_ | refine L3.s_bm ?_ | refine L3.s_lcS ?_ | refine L3.s_lcR ?_ | refine L3.s_strE ?_
    | refine L2.iteT ?_ | refine L2.iteF ?_ | refine L3.iteNF ?_ | refine L3.iteNT ?_
    | refine L3.s_eqI ?_ | refine L3.s_neI ?_ | refine L3.s_eqS ?_ | refine L3.s_neS ?_
    | refine L3.s_pair ?_ | refine L3.s_pair2 ?_ | refine L3.s_fld ?_ | refine L3.s_make ?_ | refine L3.s_m1 ?_ | refine L3.s_isstr ?_
    | refine L3.s_xfV ?_ | refine L3.s_lstN ?_ | refine L3.s_callF ?_ | refine L3.s_lcL ?_ | refine L3.s_par3 ?_ | refine L3.s_trip ?_ | refine L3.s_asgT' ?_ | refine L3.s_gC ?_ | refine L3.s_gN ?_ | refine L3.s_fldG ?_ | refine L3.s_raise1 ?_ | refine L3.s_raise2 ?_ | refine L3.s_star ?_ | refine L3.s_mkCR ?_ | refine L3.s_lcZ ?_ | refine L3.s_forL ?_ | refine L3.s_forT ?_ | refine L3.s_gNm ?_ | refine L3.s_forE ?_ | refine L3.s_stC ?_ | refine L3.s_cmC ?_ | refine L3.s_forR1 ?_ | refine L3.s_lcTp ?_ | refine L3.s_forZ ?_ | refine L3.s_orT ?_ | refine L3.s_mt ?_ | refine L3.s_revT ?_ | refine L3.s_revL ?_ | refine L3.s_slOwn ?_ | refine L3.s_sl3 ?_ | refine L3.s_lcO ?_ | refine L3.s_stR ?_
    | refine L3.s_dcL ?_ | refine L3.s_dcT ?_ | refine L3.s_dget ?_ | refine L3.s_forET ?_ | refine L3.s_din ?_ | refine L3.s_dnin ?_ | refine L3.s_mkKV ?_
    | refine L3.s_isN ?_ | refine L3.s_isB ?_ | refine L3.s_nisN ?_ | refine L3.s_nisB ?_
  | ((with_reducible refine' L3.s_var ?e ?_); (case e => rfl))
  | ((with_reducible refine' L3.s_aug ?e ?_); (case e => rfl))
  | ((with_reducible refine' L3.s_pow ?c ?_); (case c => exact ⟨by decide, by decide, by decide⟩)))
local macro_rules | `(tactic| tm_at "s") => `(tactic| repeat tm_at "s1")
namespace K30
open PySem PySem.Spec PyProof.Rows L2 L3 LamX RZ
abbrev s_place_of_greatest : Stmt := topS 70
theorem sc_place_of_greatest : FnScope ["found", "at", "index", "late"] ["found"] (defScope s_place_of_greatest) := ⟨rfl, rfl, rfl, by decide +kernel, rfl, by decide +kernel, by decide +kernel⟩
abbrev s_lateness : Stmt := topS 71
theorem sc_lateness : FnScope ["chunks", "setting", "found"] ["chunks", "setting"] (defScope s_lateness) := ⟨rfl, rfl, rfl, by decide +kernel, rfl, by decide +kernel, by decide +kernel⟩
section
variable {P : Program} {w : World} {K : PySem.W.Frag} {mg : Str → Option Value} {base : Heap} {A : LaA} {CL BR : Addr}
theorem ok_place {f : Addr} {fd : FuncData} (F : Fun K "place_of_greatest" "place_of_greatest" s_place_of_greatest f fd) (T : TxtL K mg A CL) (CF : CmpF K A.ra) (m_gt : Me P w K mg base A.ra "__gt__" 6 ["self", "other"] (spCmp gGt A.ra BR)) (m_lt : Me P w K mg base A.ra "__lt__" 6 ["self", "other"] (spCmp gLt A.ra BR)) :
    FnOk P w K mg base (L2.CX P w) 7 f fd ["found"] (spPlaceG A.ra) := by
  refine funO F sc_place_of_greatest (fun vs H Q E h => ?_) (fun cd A' fr s H vs Q E hr h => ?_)
  · obtain ⟨l, xs, rs, rfl, _⟩ := h; rfl
  · obtain ⟨l, xs, rs, rfl, hl, rts, hne, hlen, hbd, k⟩ := h
    refine ⟨_, (pss_cons (ps_set (i := 1) sc_place_of_greatest.nd rfl (Or.inl rfl) pe_int)
      (pss_cons (ps_for (passes_of rfl) rfl (pi_enum (by rfl) T.b_enumerate (pa_cons (pv 0) pa_nil)) (KX.tup (K := K) rfl rfl (pgs_cons (pg_name (i := 2) sc_place_of_greatest.nd rfl (Or.inl rfl)) (pgs_cons (pg_name (i := 3) sc_place_of_greatest.nd rfl (Or.inl rfl)) pgs_nil))) (pss_one (ps_if (pt_cmpR (cmpBin (fun _ _ => rfl) decN_gt CF rfl rfl m_gt m_lt hr (passT (takes_of rfl rfl rfl rfl) (fun _ _ _ _ h => h))) (pv 3) (pe_ix (KX.ixU (K := K)) (pv 0) (pv 1) (fun _ _ => rfl)) (nomark _)) (pss_one (ps_set (i := 1) sc_place_of_greatest.nd rfl (Or.inl rfl) (pv 2))) pss_nil)))
      (pss_one (ps_ret (pv 1))))), ?_⟩
    tm_at "s"
    have hxl : xs.length = rs.length := rts.1
    have hpos : 0 < rs.length := List.length_pos_iff.mpr hne
    refine ⟨l, xs, rfl, .inl (.inl hl), forEn (fun i σ H' => ∃ (a : Nat) (v2 v3 : Option V), σ = [some (.ref l), some (.int (a : Int)), v2, v3] ∧ Ex H H' ∧ a < rs.length ∧ ((i = 0 ∧ a = 0) ∨ (a < i ∧ Fst (rs.take i) a))) ⟨0, _, _, rfl, Ex.refl H, hpos, .inl ⟨rfl, rfl⟩⟩ (fun i σ H' ⟨_, _, _, _, e, _⟩ => e _ _ hl) ?_ ?_⟩
    · rintro i x TT _ H2 hx ⟨a, v2, v3, rfl, e2, ha, hf⟩ nT H3 e3 k3 h3
      have hi : i < rs.length := by rw [← hxl]; exact (List.getElem?_eq_some_iff.mp hx).1
      obtain ⟨q, hq, rq⟩ := rts.2 i _ (List.getElem?_eq_getElem hi)
      obtain ⟨q2, hq2, rq2⟩ := rts.2 a _ (List.getElem?_eq_getElem ha)
      rw [hx] at hq
      cases hq
      have e13 := e2.trans e3
      refine s_gT (xs := [.int (i : Int), .ref q]) h3 rfl ?_
      tm_at "s"
      refine s_iL (v := .ref q2) (e13 _ _ hl) (L3.atI_nat hq2) ?_
      refine s_cmp (fun o u o' u' => rfl) (.inl ⟨q, rfl, rq.ex2 e13⟩) (.inl ⟨q2, rfl, rq2.ex2 e13⟩) (.inl ⟨q, rfl⟩) (hbd _ (List.getElem_mem hi)) (hbd _ (List.getElem_mem ha)) fun H4 e4 => ?_
      have ht : rs.take (i + 1) = rs.take i ++ [rs[i]] := by rw [List.take_add_one, List.getElem?_eq_getElem hi]; rfl
      have step : Fst (rs.take (i + 1)) (if ltR rs[a] rs[i] then i else a) := by
        rcases hf with ⟨rfl, rfl⟩ | ⟨hai, hf⟩
        · rw [if_neg (show ¬ ltR rs[0] rs[0] from Int.lt_irrefl _), ht]
          exact Fst.one _
        · have := hf.snoc (r := rs[a]) (x := rs[i]) (by rw [List.getElem?_take_of_lt hai]; exact List.getElem?_eq_getElem ha) (fun s hs => (hbd s (List.mem_of_mem_take hs)).pos) (hbd _ (List.getElem_mem hi)).pos
          rw [List.length_take, Nat.min_eq_left (Nat.le_of_lt hi)] at this
          rw [ht]; exact this
      by_cases c : ltR rs[a] rs[i]
      · rw [if_pos c] at step
        have : gGt rs[i].1 rs[i].2 rs[a].1 rs[a].2 = true := decide_eq_true (show rs[i].1 * rs[a].2 > rs[a].1 * rs[i].2 from c)
        rw [this]
        tm_at "s"
        exact ⟨i, _, _, rfl, e13.trans e4, hi, .inr ⟨Nat.lt_succ_self i, step⟩⟩
      · rw [if_neg c] at step
        have : gGt rs[i].1 rs[i].2 rs[a].1 rs[a].2 = false := decide_eq_false (show ¬ rs[i].1 * rs[a].2 > rs[a].1 * rs[i].2 from c)
        rw [this]
        tm_at "s"
        refine ⟨a, _, _, rfl, e13.trans e4, ha, .inr ⟨?_, step⟩⟩
        rcases hf with ⟨rfl, rfl⟩ | ⟨hai, _⟩ <;> omega
    · rintro _ H2 ⟨a, v2, v3, rfl, e2, ha, hf⟩
      tm_at "s"
      refine k a H2 e2 ?_
      rcases hf with ⟨z, _⟩ | ⟨_, hf⟩
      · omega
      · rw [hxl, List.take_length] at hf; exact hf
theorem ok_lateness {f : Addr} {fd : FuncData} (F : Fun K "lateness" "lateness" s_lateness f fd) (T : TxtL K mg A CL) (c_need_list : FnO P w K mg base (L2.CX P w) 3 "need_list" ["chunks", "setting"] (spNeedList K A)) (c_rows_of : FnO P w K mg base (L2.CX P w) 9 "rows_of" ["chunks", "setting"] (spRows A)) (c_place_of_greatest : FnO P w K mg base (L2.CX P w) 7 "place_of_greatest" ["found"] (spPlaceG A.ra)) :
    FnOk P w K mg base (L2.CX P w) 10 f fd ["chunks", "setting"] (spLatG K A) := by
  refine funO F sc_lateness (fun vs H Q E h => ?_) (fun cd A' fr s H vs Q E hr h => ?_)
  · obtain ⟨x, y, rfl, _⟩ := h; rfl
  · obtain ⟨x, y, rfl, hc⟩ := h
    refine ⟨_, (pss_cons (ps_expr (pe_o c_need_list hr (passT (takes_of rfl rfl rfl rfl) (fun _ _ _ _ h => h)) (pa_cons (pv 0) (pa_cons (pv 1) pa_nil))))
      (pss_cons (ps_set (i := 2) sc_lateness.nd rfl (Or.inl rfl) (pe_o c_rows_of hr (passT (takes_of rfl rfl rfl rfl) (fun _ _ _ _ h => h)) (pa_cons (pv 0) (pa_cons (pv 1) pa_nil))))
      (pss_one (ps_ret (pe_ifExp (pt_cmpR (opNeUL (K := K) rfl hr.units) (pv 2) (pe_lst pa_nil) (nomark _)) (pe_ix (KX.ixU (K := K)) (pv 2) (pe_o c_place_of_greatest hr (passT (takes_of rfl rfl rfl rfl) (fun _ _ _ _ h => h)) (pa_cons (pv 2) pa_nil)) (fun _ _ => rfl)) pe_non))))), ?_⟩
    tm_at "s"
    rcases hc with (⟨nc, rz⟩ | ⟨p, ns, rfl, ck, nc, rz⟩) | ⟨p, q, ns, ws, a, b, f, rfl, rfl, ck, hl, hs, st, okw, oks, hc⟩
    · exact ⟨_, _, rfl, .inl ⟨nc, rz⟩⟩
    · exact ⟨_, _, rfl, .inr ⟨p, ns, rfl, ck, .inl ⟨nc, rz⟩⟩⟩
    · refine ⟨_, _, rfl, .inr ⟨p, ns, rfl, ck, .inr ⟨q, ws, a, b, f, rfl, st, ?_⟩⟩⟩
      tm_at "s"
      refine ⟨p, q, ns, ws, a, b, f, rfl, ck, hl, hs, st, okw, oks, fun l xs H1 nl e1 h1 rts => ?_⟩
      tm_at "s"
      refine s_new (Nat.le_of_lt (small1000 (by simp))) fun l2 H2 nl2 e2 h2 => ?_
      have hll : xs.length = ns.length := by rw [rts.1]; unfold latesF; rw [List.length_map, List.length_range]
      rcases hc with ⟨rfl, k⟩ | ⟨hne, k⟩
      · obtain rfl : xs = [] := List.eq_nil_of_length_eq_zero hll
        refine .inl (.inr (s_neD (.lst (.inl (.inl (e2 _ _ h1))) .nil) (.lst (.inl (.inl h2)) .nil) (by decide +kernel) (by decide +kernel) ?_))
        tm_at "s"
        exact k _ (e1.trans e2)
      · have hpos : 0 < ns.length := List.length_pos_iff.mpr hne
        refine .inr ⟨l, l2, xs, [], rfl, rfl, e2 _ _ h1, h2, by rw [hll]; simp; omega, ?_⟩
        tm_at "s"
        have hfl : (latesF ws a b f ns).length = ns.length := by unfold latesF; rw [List.length_map, List.length_range]
        refine ⟨l, xs, latesF ws a b f ns, rfl, e2 _ _ h1, rts.ex e2, fun z => ?_, by omega, latesF_bd okw oks hl hs, fun i H3 e3 hf => ?_⟩
        · rw [z] at hfl; simp at hfl; omega
        · obtain ⟨r, hr2, _⟩ := id hf
          have hi : i < ns.length := by rw [← hfl]; exact (List.getElem?_eq_some_iff.mp hr2).1
          have hri : r = lateI ws a b f ns i := by
            unfold latesF at hr2
            rw [List.getElem?_map, List.getElem?_range hi] at hr2
            exact (Option.some.inj hr2).symm
          obtain ⟨t, ht, rt⟩ := rts.2 i _ hr2
          refine s_iL (v := .ref t) (e3 _ _ (e2 _ _ h1)) (L3.atI_nat ht) ?_
          exact k i t H3 hf hi (e1.trans (e2.trans e3)) (hri ▸ rt.ex2 (e2.trans e3))
end
end K30
end
section
local macro_rules | `(tactic| tm_at "s1") => `(tactic| first
  | with_reducible first
    | refine L3.s_seq ?_ | refine L3.s_asg ?_ | refine L3.s_op ?_ | refine L3.s_c ?_ | refine L3.s_cb ?_ | refine L3.s_cons ?_ | refine L3.s_nil ?_ | refine L3.s_test ?_ | refine L3.s_bl ?_
    | refine L3.s_I0 ?_ | refine L3.s_and ?_ | refine L3.s_or ?_ | refine L3.s_not ?_ | refine L3.s_if ?_ | refine L3.s_next ?_ | refine L3.s_ret ?_ | refine L3.s_retN ?_ | refine L3.s_asgS ?_ | refine L3.s_drop ?_
    | refine L3.s_un ?_ | refine L3.s_U ?_ | refine L3.s_int ?_ | refine L3.s_intB ?_ | refine L3.s_abs ?_ | refine L3.s_andV ?_ | refine L3.s_orV ?_ | refine L3.s_notV ?_ | refine L3.s_ifE ?_ | refine L3.s_call ?_ | refine L3.s_lst ?_ | refine L3.s_tup ?_ | refine L3.s_tB ?_
    | refine L3.s_addI ?_ | refine L3.s_inS ?_ | refine L3.s_ninS ?_ | refine L3.s_slice ?_ | refine L3.s_part ?_ | refine L3.s_partI ?_ | refine L3.s_nopart ?_ | refine L3.s_cI ?_ | refine L3.s_cB ?_ | refine L3.s_chain ?_ | refine L3.s_bm ?_ | refine L3.s_lcS ?_ | refine L3.s_lcR ?_ | refine L3.s_strE ?_
    | refine L2.iteT ?_ | refine L2.iteF ?_ | refine L3.iteNF ?_ | refine L3.iteNT ?_
    | refine L3.s_eqI ?_ | refine L3.s_neI ?_ | refine L3.s_eqS ?_ | refine L3.s_neS ?_
    | refine L3.s_pair ?_ | refine L3.s_pair2 ?_ | refine L3.s_fld ?_ | refine L3.s_make ?_ | refine L3.s_m1 ?_ | refine L3.s_isstr ?_
    | refine L3.s_xfV ?_ | refine L3.s_lstN ?_ | refine L3.s_callF ?_ | refine L3.s_lcL ?_ | refine L3.s_par3 ?_ | refine L3.s_trip ?_ | refine L3.s_asgT' ?_ | refine L3.s_gC ?_ | refine L3.s_gN ?_ | refine L3.s_fldG ?_ | refine L3.s_raise1 ?_ | refine L3.s_raise2 ?_ | refine L3.s_star ?_ | refine L3.s_mkCR ?_ | refine L3.s_lcZ ?_ | refine L3.s_forL ?_ | refine L3.s_forT ?_ | refine L3.s_gNm ?_ | refine L3.s_forE ?_ | refine L3.s_stC ?_ | refine L3.s_cmC ?_ | refine L3.s_forR1 ?_ | refine L3.s_lcTp ?_ | refine L3.s_forZ ?_ | refine L3.s_orT ?_ | refine L3.s_mt ?_ | refine L3.s_revT ?_ | refine L3.s_revL ?_ | refine L3.s_slOwn ?_ | refine L3.s_sl3 ?_ | refine L3.s_lcO ?_ | refine L3.s_stR ?_
    | refine L3.s_isN ?_ | refine L3.s_isB ?_ | refine L3.s_nisN ?_ | refine L3.s_nisB ?_
  | ((with_reducible refine' L3.s_var ?e ?_); (case e => rfl))
  | ((with_reducible refine' L3.s_aug ?e ?_); (case e => rfl))
  | ((with_reducible refine' L3.s_pow ?c ?_); (case c => exact ⟨by decide, by decide, by decide⟩)))
local macro_rules | `(tactic| tm_at "s") => `(tactic| repeat tm_at "s1")
namespace K30
open PySem PySem.NumText PySem.Spec PyProof.Rows L2 L3 LamX RZ ClX
abbrev s__law_pen : Stmt := topS 73
theorem sc__law_pen : FnScope ["_law_script"] ["_law_script"] (defScope s__law_pen) := ⟨rfl, rfl, rfl, by decide +kernel, rfl, by decide +kernel, by decide +kernel⟩
abbrev s__law_draw : Stmt := topS 74
theorem sc__law_draw : FnScope ["_law_pen_here", "_law_many", "_law_digit", "_law_at", "_law_cell", "_law_great", "_law_mixed"] ["_law_pen_here", "_law_many"] (defScope s__law_draw) := ⟨rfl, rfl, rfl, by decide +kernel, rfl, by decide +kernel, by decide +kernel⟩
abbrev s__law_pick : Stmt := topS 75
theorem sc__law_pick : FnScope ["_law_pen_here", "_law_some"] ["_law_pen_here", "_law_some"] (defScope s__law_pick) := ⟨rfl, rfl, rfl, by decide +kernel, rfl, by decide +kernel, by decide +kernel⟩
structure TxtP (K : PySem.W.Frag) (mg : Str → Option Value) : Prop where
  b_list : mg "list" = none
  b_int : mg "int" = none
  b_len : mg "len" = none
  b_abs : mg "abs" = none
section
variable {P : Program} {w : World} {K : PySem.W.Frag} {mg : Str → Option Value} {base : Heap}
theorem ok_pen {f : Addr} {fd : FuncData} (F : Fun K "_law_pen" "_law_pen" s__law_pen f fd) (T : TxtP K mg) : FnG P w K mg base CX0 1 f fd ["_law_script"] (spPen K) := by
  refine funG F sc__law_pen (fun vs H Q E h => ?_) (fun cd A fr s H vs Q E hr hg h => ?_)
  · obtain ⟨a, ns, rfl, _⟩ := h; rfl
  · obtain ⟨a, ns, rfl, hs, hl, k⟩ := h
    refine ⟨_, pss_penNew ((pss_one (ps_ret (pe_lst (pa_cons (pe_callTy (KX.callList (K := K) rfl rfl) (by rfl) T.b_list (by decide +kernel) (pa_cons (pe_slice (KX.slU (K := K)) (pv 0) po_none (po_some pe_int)) pa_nil)) (pa_cons pe_int (pa_cons pe_int pa_nil))))))), ?_⟩
    show (tRet _ : TS) _ _ _
    tm_at "s"
    refine s_slL hs fun q H1 hq e1 h1 => ?_
    tm_at "s"
    refine s_listL (.inl (.inl h1)) fun l H2 hl2 e2 h2 => ?_
    tm_at "s"
    refine s_new (Nat.le_of_lt (small1000 (by simp))) fun p H3 hp e3 h3 => ?_
    have hH : H p = none := e1.free (e2.free hp)
    have nlp : l ≠ p := ne_of_none h2 hp
    have hHl : H l = none := e1.free hl2
    refine ⟨p, l, 0, ns.take 63, rfl, h3, ?_, nlp, k p _ hH (fun b o hb => ?_) ⟨l, ns.take 63, ?_, upd_same, ?_, nlp⟩⟩
    · rw [e3 _ _ h2]
      have : cutV (ns.map V.int) none (some 63) = (ns.take 63).map V.int := by
        unfold cutV
        show ((ns.map V.int).drop 0).take (HT.sIx (ns.map V.int).length (ns.map V.int).length (some (63 : Nat)) - 0) = _
        rw [HT.sIx_nat, List.drop_zero, List.length_map, Nat.sub_zero, List.map_take]
        rw [List.take_eq_take_iff]
        simp
      rw [this]
    · rw [upd_ne (ne_of_none hb hHl), upd_ne (ne_of_none hb hH)]
      exact e3 _ _ (e2 _ _ (e1 _ _ hb))
    · rw [upd_ne (Ne.symm nlp)]; exact upd_same
    · rw [List.length_take]; omega
theorem drawC : DrawC 95141 2773 2147483629 74591 910 2147483563 133 701 70 2147483497 := ⟨by decide, by decide, by decide, by decide, by decide, by decide, by decide, by decide, by decide⟩
theorem ok_draw {f : Addr} {fd : FuncData} (F : Fun K "_law_draw" "_law_draw" s__law_draw f fd) (T : TxtP K mg) : FnG P w K mg base CX0 1 f fd ["_law_pen_here", "_law_many"] spDraw := by
  refine funG F sc__law_draw (fun vs H Q E h => ?_) (fun cd A fr s H vs Q E hr hg h => ?_)
  · obtain ⟨a, n, many, rfl, _⟩ := h; rfl
  · obtain ⟨a, n, many, rfl, hm, hm2, ⟨c, ns, ha, hc, hl⟩, hn, k⟩ := h
    refine ⟨_, pss_sc c ns (pss_pen a c n (n + 1) ((pss_cons (ps_if (pt_cmpR op_gt (pe_ix (KX.ixU (K := K)) (pv 0) pe_int (fun _ _ => rfl)) pe_int (nomark _)) (pss_cons (ps_set (i := 2) sc__law_draw.nd rfl (Or.inl rfl) (pe_op op_mod (pe_callTy (KX.callInt (K := K)) (by rfl) T.b_int (by decide +kernel) (pa_cons (pe_ix (KX.ixU (K := K)) (pv 0) pe_int (fun _ _ => rfl)) pa_nil)) (pv 1)))
      (pss_cons (ps_asg (pe_op op_fdivW (pe_callTy (KX.callInt (K := K)) (by rfl) T.b_int (by decide +kernel) (pa_cons (pe_ix (KX.ixU (K := K)) (pv 0) pe_int (fun _ _ => rfl)) pa_nil)) (pv 1)) (pg_sub (pv 0) pe_int set_list))
      (pss_one (ps_ret (pv 2))))) pss_nil)
      (pss_cons (ps_set (i := 3) sc__law_draw.nd rfl (Or.inl rfl) (pe_ix (KX.ixU (K := K)) (pv 0) pe_int (fun _ _ => rfl)))
      (pss_cons (ps_asg (pe_op opAdd (pv 3) pe_int) (pg_sub (pv 0) pe_int set_list))
      (pss_cons (ps_set (i := 4) sc__law_draw.nd rfl (Or.inl rfl) (pe_op opAdd (pe_op opMul pe_int (pv 3)) pe_int))
      (Evl.pss_cut (ps_if (pt_cmpR (KX.neU (K := K) rfl hr.units) (pe_ix (KX.ixU (K := K)) (pv 0) pe_int (fun _ _ => rfl)) (pe_lst pa_nil) (nomark _)) (pss_one (ps_set (i := 4) sc__law_draw.nd rfl (Or.inl rfl) (pe_ix (KX.ixU (K := K)) (pe_ix (KX.ixU (K := K)) (pv 0) pe_int (fun _ _ => rfl)) (pe_op op_mod (pe_callTy (KX.callInt (K := K)) (by rfl) T.b_int (by decide +kernel) (pa_cons (pv 3) pa_nil)) (pe_callB (KX.callLen (K := K)) (by rfl) T.b_len (by decide +kernel) (pa_cons (pe_ix (KX.ixU (K := K)) (pv 0) pe_int (fun _ _ => rfl)) pa_nil))) (fun _ _ => rfl)))) pss_nil)
      (pss_cons (ps_if (PW.pt (pw_and (pt_cmpR op_lt (pv 3) (pe_callB (KX.callLen (K := K)) (by rfl) T.b_len (by decide +kernel) (pa_cons (pe_ix (KX.ixU (K := K)) (pv 0) pe_int (fun _ _ => rfl)) pa_nil)) (nomark _)) (pw_and1 (pt_cmpR op_ge (pe_callB call_abs (by rfl) T.b_abs (by decide +kernel) (pa_cons (pv 4) pa_nil)) (pe_op op_pow pe_int pe_int) (nomark _))))) (pss_cons (ps_set (i := 5) sc__law_draw.nd rfl (Or.inl rfl) (pe_op opAdd (pe_op opMul pe_int (pe_op op_sub (pe_callB call_abs (by rfl) T.b_abs (by decide +kernel) (pa_cons (pv 4) pa_nil)) (pe_op op_pow pe_int pe_int))) (pe_callTy (KX.callInt (K := K)) (by rfl) T.b_int (by decide +kernel) (pa_cons (pe_cmpR op_lt (pv 4) pe_int (nomark _)) pa_nil))))
      (pss_cons (ps_asg (pe_op op_fdivW (pe_callTy (KX.callInt (K := K)) (by rfl) T.b_int (by decide +kernel) (pa_cons (pv 5) pa_nil)) (pv 1)) (pg_sub (pv 0) pe_int set_list))
      (pss_one (ps_ret (pe_op op_mod (pe_callTy (KX.callInt (K := K)) (by rfl) T.b_int (by decide +kernel) (pa_cons (pv 5) pa_nil)) (pv 1)))))) pss_nil)
      (pss_cons (ps_set (i := 6) sc__law_draw.nd rfl (Or.inl rfl) (pe_op op_mod (pe_callTy (KX.callInt (K := K)) (by rfl) T.b_int (by decide +kernel) (pa_cons (pe_op op_pow (pe_op opAdd (pe_op opAdd (pe_op op_mod (pe_callTy (KX.callInt (K := K)) (by rfl) T.b_int (by decide +kernel) (pa_cons (pv 4) pa_nil)) pe_int) (pe_op opMul pe_int (pv 3))) pe_int) pe_int) pa_nil)) pe_int))
      (pss_cons (ps_set (i := 6) sc__law_draw.nd rfl (Or.inl rfl) (pe_op op_mod (pe_callTy (KX.callInt (K := K)) (by rfl) T.b_int (by decide +kernel) (pa_cons (pe_op op_pow (pe_op opAdd (pe_op opAdd (pe_op opMul (pv 6) (pe_op opAdd (pe_op opMul pe_int (pv 3)) pe_int)) (pe_op opMul (pe_op opMul pe_int (pv 3)) (pv 3))) pe_int) pe_int) pa_nil)) pe_int))
      (pss_one (ps_ret (pe_op op_mod (pe_callTy (KX.callInt (K := K)) (by rfl) T.b_int (by decide +kernel) (pa_cons (pe_op op_fdivW (pv 6) pe_int) pa_nil)) (pv 1)))))))))))))), ?_⟩
    exact rd_drawS drawC hm hm2 ha hc hn hl k
theorem ok_pick {f : Addr} {fd : FuncData} (F : Fun K "_law_pick" "_law_pick" s__law_pick f fd) (T : TxtP K mg) (c__law_draw : Fn P w K mg base CX0 1 "_law_draw" ["_law_pen_here", "_law_many"] spDraw) :
    FnG P w K mg base CX0 2 f fd ["_law_pen_here", "_law_some"] spPick := by
  refine funG F sc__law_pick (fun vs H Q E h => ?_) (fun cd A fr s H vs Q E hr hg h => ?_)
  · obtain ⟨a, l, n, xs, rfl, _⟩ := h; rfl
  · obtain ⟨a, l, n, xs, rfl, hl, hne, hlen, hp, hn, k⟩ := h
    refine ⟨_, (pss_one (ps_ret (pe_ix (KX.ixU (K := K)) (pv 1) (pe_f c__law_draw hr hg pass0 (pa_cons (pv 0) (pa_cons (pe_callB (KX.callLen (K := K)) (by rfl) T.b_len (by decide +kernel) (pa_cons (pv 1) pa_nil)) pa_nil))) (fun _ _ => rfl)))), ?_⟩
    tm_at "s"
    refine s_lenL hl ?_
    have hpos : 0 < xs.length := List.length_pos_iff.mpr hne
    refine ⟨a, n, _, rfl, by omega, ?_, hp, hn, fun d H' d0 d1 hp' hk => ?_⟩
    · rw [Int.natAbs_natCast]
      exact Nat.lt_of_le_of_lt hlen (Nat.lt_of_lt_of_le (by decide : 100000 < 2 ^ 20) (Nat.pow_le_pow_right (by decide) (by decide)))
    · have nl : l ≠ a := hp.ne hl fun c n z => by unfold PenO at z; cases z
      have hd : d.toNat < xs.length := by omega
      refine s_iL (v := xs[d.toNat]) (hk l _ nl hl) (by rw [atI_int d0 d1, List.getElem?_eq_getElem hd]) ?_
      exact k _ _ (List.getElem_mem hd) hp' hk
end
end K30
end
section
namespace L3
open PySem PySem.NumText PySem.Spec PyProof.Rows L2 LamX RZ
theorem minW_le : ∀ {ws : List (Str × Int)} {y : Int}, y ∈ ws.map (·.2) → minW ws ≤ y
  | [], _, h => by cases h
  | [p], y, h => by
    simp at h
    rw [h]; exact Int.le_refl _
  | p :: q :: r, y, h => by
    show min p.2 (minW (q :: r)) ≤ y
    rcases List.mem_cons.mp h with e | e
    · rw [e]; exact Int.min_le_left _ _
    · exact Int.le_trans (Int.min_le_right _ _) (minW_le e)
theorem le_maxW : ∀ {ws : List (Str × Int)} {y : Int}, y ∈ ws.map (·.2) → y ≤ maxW ws
  | [], _, h => by cases h
  | [p], y, h => by
    simp at h
    rw [h]; exact Int.le_refl _
  | p :: q :: r, y, h => by
    show y ≤ max p.2 (maxW (q :: r))
    rcases List.mem_cons.mp h with e | e
    · rw [e]; exact Int.le_max_left _ _
    · exact Int.le_trans (le_maxW e) (Int.le_max_right _ _)
theorem sum_permI {l r : List Int} (h : l.Perm r) : l.sum = r.sum := by
  induction h with
  | nil => rfl
  | cons x _ ih => rw [List.sum_cons, List.sum_cons, ih]
  | swap x y l => rw [List.sum_cons, List.sum_cons, List.sum_cons, List.sum_cons]; omega
  | trans _ _ a b => exact a.trans b
theorem sumW_perm {ws us : List (Str × Int)} (h : ws.Perm us) : sumW ws = sumW us := sum_permI (h.map (·.2))
theorem pen_updD {H : Hp} {a d : Addr} {n : Nat} {kvs : List (Key × V)} {o : HO} (p : Pen H a n) (hd : H d = some (.dK kvs)) : Pen (upd H d o) a n := by
  obtain ⟨c, ns, z1, z2, z3⟩ := p
  have h1 : a ≠ d := fun z => by rw [z, hd] at z1; cases z1
  have h2 : c ≠ d := fun z => by rw [z, hd] at z2; unfold ScO at z2; cases z2
  exact ⟨c, ns, by rw [upd_ne h1]; exact z1, by rw [upd_ne h2]; exact z2, z3⟩
theorem plan_ne {H : Hp} {p d d' : Addr} {ws : List (Str × Int)} {a b f : Int} (hp : H p = some (.dK (plF d' a b f))) (hd : H d = some (.dK (ws.map wI))) : d ≠ p := fun z => by
  rw [z, hp] at hd
  have e : plF d' a b f = ws.map wI := HO.dK.inj (Option.some.inj hd)
  cases ws with
  | nil => cases e
  | cons q r =>
    have := (List.cons.inj e).1
    cases (congrArg Prod.snd this : V.ref d' = V.int q.2)
theorem KX.sumT {X : Cx} {K : PySem.W.Frag} (hK : X.K = K) (hc : X.calm = true) : CallR X (.builtin "sum") (rSum K) := by subst hK; exact cr_sum hc
section
variable {σ : L2.St} {H : Hp}
theorem s_disp {trs : List (TE × TE)} {Q : VK} (h : ∀ p, H p = none → tPairs trs σ (upd H p (.dK [])) fun ps H2 => H2 p = some (.dK []) ∧ ∃ kvs : List (Key × V), ps = kvs.map (fun kv => (kV kv.1, kv.2)) ∧ kvs.length ≤ 15 ∧ Q (.ref p) (upd H2 p (.dK (mergeK [] kvs)))) : tDisp trs σ H Q := h
theorem s_pr {tk tv : TE} {r : List (TE × TE)} {Q : List (V × V) → Hp → Prop} (h : tk σ H fun x H1 => tv σ H1 fun y H2 => tPairs r σ H2 fun ps H3 => Q ((x, y) :: ps) H3) : tPairs ((tk, tv) :: r) σ H Q := h
theorem s_pr0 {Q : List (V × V) → Hp → Prop} (h : Q [] H) : tPairs [] σ H Q := h
end
def spSetP (C CW CQ : Addr) : Sp := fun vs H Q _ => ∃ p ws a b f, vs = [.ref p] ∧ Plan H p ws a b f ∧ OkW ws ∧ OkS a b f ∧ ∀ q H', Ex H H' → St C CW CQ H' q (srtW ws) a b f → Q (.ref q) H'
def wsA : List (Str × Int) := [("a", 1), ("b", 3)]
def wsB : List (Str × Int) := [("a", 1), ("b", 1)]
theorem okA : OkW wsA := ⟨by decide, by decide, by decide +kernel, by decide +kernel, by decide +kernel⟩
theorem okB : OkW wsB := ⟨by decide, by decide, by decide +kernel, by decide +kernel, by decide +kernel⟩
end L3
end
section
namespace L3
open PySem PySem.NumText PySem.Spec PyProof.Rows L2 LamX RZ
def valI (ws : List (Str × Int)) (n : Str) : Option Int := (ws.find? fun p => p.1 = n).map (·.2)
end L3
end
section
namespace L3
open PySem PySem.NumText PySem.Spec PyProof.Rows L2 LamX RZ
/-- a pair set into others -/
def setW (ws : List (Str × Int)) (n : Str) (i : Int) : List (Str × Int) := if (valI ws n).isSome then ws.map fun p => if p.1 = n then (n, i) else p else ws ++ [(n, i)]
theorem valI_none {ws : List (Str × Int)} {n : Str} : valI ws n = none ↔ n ∉ ws.map (·.1) := by
  unfold valI
  rw [Option.map_eq_none_iff, List.find?_eq_none]
  constructor
  · intro h z
    obtain ⟨p, hp, e⟩ := List.mem_map.mp z
    have := h p hp
    simp at this
    exact this e
  · intro h p hp
    simp only [decide_eq_true_eq]
    exact fun e => h (e ▸ List.mem_map_of_mem hp)
theorem merge_new : ∀ {us ws : List (Str × Int)}, (us.map (·.1)).Nodup → (∀ p ∈ us, p.1 ∉ ws.map (·.1)) → mergeK (ws.map wI) (us.map wI) = (ws ++ us).map wI
  | [], ws, _, _ => by rw [List.append_nil]; rfl
  | p :: us, ws, nd, h => by
    rw [List.map_cons, List.nodup_cons] at nd
    show mergeK (putK (ws.map wI) (Sum.inr p.1) (.int p.2)) (us.map wI) = _
    rw [putK_new _ (valV_no (h p (List.mem_cons_self ..))), show ws.map wI ++ [((Sum.inr p.1 : Key), V.int p.2)] = (ws ++ [p]).map wI by rw [List.map_append]; rfl]
    rw [merge_new (us := us) nd.2 fun q hq z => ?_, List.append_assoc]
    · rfl
    · rw [List.map_append] at z
      rcases List.mem_append.mp z with z | z
      · exact h q (List.mem_cons_of_mem _ hq) z
      · rw [List.map_singleton, List.mem_singleton] at z
        exact nd.1 (z ▸ List.mem_map_of_mem hq)
theorem setW_names {ws : List (Str × Int)} {n : Str} {i : Int} : (setW ws n i).map (·.1) = if (valI ws n).isSome then ws.map (·.1) else ws.map (·.1) ++ [n] := by
  unfold setW
  split
  · rw [List.map_map]
    refine List.map_congr_left fun p hp => ?_
    show (if p.1 = n then (n, i) else p).1 = p.1
    split
    · rename_i c; exact c.symm
    · rfl
  · rw [List.map_append]; rfl
theorem setW_mem {ws : List (Str × Int)} {n : Str} {i : Int} {q : Str × Int} (h : q ∈ setW ws n i) : q = (n, i) ∨ q ∈ ws := by
  unfold setW at h
  split at h
  · obtain ⟨p, hp, e⟩ := List.mem_map.mp h
    by_cases c : p.1 = n
    · rw [if_pos c] at e; exact .inl e.symm
    · rw [if_neg c] at e; exact .inr (e ▸ hp)
  · rcases List.mem_append.mp h with h | h
    · exact .inr h
    · exact .inl (List.mem_singleton.mp h)
theorem setW_nd {ws : List (Str × Int)} {n : Str} {i : Int} (nd : (ws.map (·.1)).Nodup) : ((setW ws n i).map (·.1)).Nodup := by
  rw [setW_names]
  split
  · exact nd
  · rename_i c
    have hn : n ∉ ws.map (·.1) := valI_none.mp (by cases hv : valI ws n with
      | none => rfl
      | some _ => rw [hv] at c; exact absurd rfl c)
    exact List.nodup_append.mpr ⟨nd, by simp, fun a ha b hb e => hn (by rw [← List.mem_singleton.mp hb, ← e]; exact ha)⟩
end L3
end
section
namespace L3
open PySem PySem.NumText PySem.Spec PyProof.Rows L2 LamX RZ
def lastN (acc : List (Str × Int)) : Str := match acc.getLast? with
  | some p => p.1
  | none => ""
/-- what has been read so far -/
structure AccW (acc : List (Str × Int)) : Prop where
  le : acc.length ≤ 8
  nm : ∀ p ∈ acc, nameB p.1 = true
  sp : ∀ p ∈ acc, 1 ≤ p.2 ∧ p.2 ≤ 60
  nd : (acc.map (·.1)).Nodup
  srt : SrtW acc
  top : ∀ a ∈ acc.map (·.1), leS a (lastN acc) = true
theorem lastN_snoc (acc : List (Str × Int)) (p : Str × Int) : lastN (acc ++ [p]) = p.1 := by
  unfold lastN
  simp
theorem leS_refl (a : Str) : leS a a = true := (leS_total a a).elim id id
theorem AccW.nil : AccW [] := ⟨by decide, (fun _ h => nomatch h), (fun _ h => nomatch h), List.nodup_nil, List.Pairwise.nil, (fun _ h => nomatch h)⟩
theorem AccW.new {acc : List (Str × Int)} (h : AccW acc) {z : Str} (hz : leS z (lastN acc) = false) : z ∉ acc.map (·.1) := fun hm => by
  rw [h.top z hm] at hz; cases hz
theorem AccW.snoc {acc : List (Str × Int)} (h : AccW acc) {z : Str} {i : Int} (hl : acc.length < 8) (hn : nameB z = true) (hz : leS z (lastN acc) = false) (hi : 1 ≤ i ∧ i ≤ 60) : AccW (acc ++ [(z, i)]) := by
  have hnew := h.new hz
  have below : ∀ a ∈ acc.map (·.1), leS a z = true := fun a ha => by
    rcases leS_total a z with k | k
    · exact k
    · have := leS_trans k (h.top a ha)
      rw [this] at hz; cases hz
  have em : (acc ++ [(z, i)]).map (·.1) = acc.map (·.1) ++ [z] := by rw [List.map_append]; rfl
  refine ⟨by rw [List.length_append]; exact hl, fun p hp => ?_, fun p hp => ?_, ?_, ?_, fun a ha => ?_⟩
  · rcases List.mem_append.mp hp with hp | hp
    · exact h.nm p hp
    · rw [List.mem_singleton.mp hp]; exact hn
  · rcases List.mem_append.mp hp with hp | hp
    · exact h.sp p hp
    · rw [List.mem_singleton.mp hp]; exact hi
  · rw [em]
    exact List.nodup_append.mpr ⟨h.nd, by simp, fun a ha b hb e => hnew (by rw [← List.mem_singleton.mp hb, ← e]; exact ha)⟩
  · unfold SrtW
    rw [em]
    exact List.pairwise_append.mpr ⟨h.srt, by simp, fun a ha b hb => by rw [List.mem_singleton.mp hb]; exact below a ha⟩
  · rw [lastN_snoc]
    rw [em] at ha
    rcases List.mem_append.mp ha with ha | ha
    · exact below a ha
    · rw [List.mem_singleton.mp ha]; exact leS_refl _
theorem AccW.ok {acc : List (Str × Int)} (h : AccW acc) (ne : acc ≠ []) : OkW acc := ⟨ne, h.le, h.nm, h.sp, h.nd⟩
end L3
end
section
namespace L3
open PySem PySem.Spec PyProof.Rows L2 LamX ItX
def CwL (C : Addr) (H : Hp) (p d : Addr) (od : Obj) (ws : List (Str × Int)) : Prop := ∃ dx t, H p = some (.ins C dx (cwF d t ws)) ∧ H d = some (.frz od (.dK (ws.map wI))) ∧ H t = some (.tup (namesV ws))
theorem CwL.ex {C : Addr} {H H' : Hp} {p d : Addr} {od : Obj} {ws : List (Str × Int)} (h : CwL C H p d od ws) (e : Ex H H') : CwL C H' p d od ws := by
  obtain ⟨dx, t, h1, h2, h3⟩ := h
  exact ⟨dx, t, e _ _ h1, e _ _ h2, e _ _ h3⟩
section
variable {X : Cx} {pins : List (Addr × Obj)} {σ : L2.St} {C f a d S it : Addr} {od : Obj} {kvs : List (Key × V)} {vs : List (Key × Value)} {es : Array DictEntry} {ep : Nat}
/-- what the list holds after i turns -/
def PrW (H : Hp) (ts : List Addr) (kvs : List (Key × V)) : Prop := ts.length = kvs.length ∧ ∀ (i : Nat) t p, ts[i]? = some t → kvs[i]? = some p → H t = some (.tup [kV p.1, p.2])
end
end L3
end
section
namespace L3
open PySem PySem.Spec PyProof.Rows L2 LamX RZ
section
variable {σ : L2.St} {H : Hp} {g : TG} {tb : TS} {D : Ends}
theorem s_lockS {t : TS} {d : Addr} {kvs : List (Key × V)} (hd : H d = some (.dK kvs)) (h : ∀ od, t ⟨fun σ' H' => H' d = some (.frz od (.dK kvs)) ∧ D.nx σ' (upd H' d (.dK kvs)), fun v H' => H' d = some (.frz od (.dK kvs)) ∧ D.rt v (upd H' d (.dK kvs)), fun σ' H' => H' d = some (.frz od (.dK kvs)) ∧ D.bk σ' (upd H' d (.dK kvs)), fun σ' H' => H' d = some (.frz od (.dK kvs)) ∧ D.ct σ' (upd H' d (.dK kvs))⟩ σ (upd H d (.frz od (.dK kvs)))) : tLock t D σ H := ⟨d, _, hd, trivial, h⟩
theorem s_forK {td : TE} (h : td σ H fun x H1 => ∃ d o, x = .ref d ∧ ((∃ kvs, H1 d = some (.frz o (.dK kvs)) ∧ ForJ (Itk d o kvs) g tb D σ H1) ∨ ∃ kvs, H1 d = some (.frz o (.dT kvs)) ∧ ForJ (Itkt d o kvs) g tb D σ H1)) : tFor (iKeys td) g tb D σ H := h
theorem forKd {d : Addr} {o : Obj} {kvs : List (Key × V)} (Pv : Nat → L2.St → Hp → Prop) (h0 : Pv 0 σ H) (hs : ∀ i σ H, Pv i σ H → H d = some (.frz o (.dK kvs)))
    (hb : ∀ (i : Nat) k v σ H, kvs[i]? = some (k, v) → Pv i σ H → g (kV k) σ H fun σ2 H2 => tb { nx := Pv (i + 1), rt := D.rt, bk := D.nx, ct := Pv (i + 1) } σ2 H2)
    (he : ∀ σ H, Pv kvs.length σ H → D.nx σ H) : ForJ (Itk d o kvs) g tb D σ H :=
  for_it walk_keys Pv h0 (fun i σ H _ h => hs i σ H h) (fun i x σ H1 H2 hi hp hy => by
    obtain ⟨rfl, k, v, hkv, rfl⟩ := hy
    exact hb i k v σ _ hkv hp) he
end
def bothW : List (Str × Int) → List (Str × Int) → List (Str × Int)
  | ws, [] => ws
  | ws, p :: us => bothW (setW ws p.1 p.2) us
theorem bothW_nd : ∀ {us ws : List (Str × Int)}, (ws.map (·.1)).Nodup → ((bothW ws us).map (·.1)).Nodup
  | [], _, h => h
  | _ :: us, _, h => bothW_nd (us := us) (setW_nd h)
theorem bothW_mem : ∀ {us ws : List (Str × Int)} {q : Str × Int}, q ∈ bothW ws us → q ∈ ws ∨ q ∈ us
  | [], _, _, h => .inl h
  | p :: us, ws, q, h => by
    rcases bothW_mem (us := us) h with h | h
    · rcases setW_mem h with h | h
      · exact .inr (by rw [h]; exact List.mem_cons_self ..)
      · exact .inl h
    · exact .inr (List.mem_cons_of_mem _ h)
theorem setW_len {ws : List (Str × Int)} {n : Str} {i : Int} : ws.length ≤ (setW ws n i).length ∧ (setW ws n i).length ≤ ws.length + 1 := by
  unfold setW
  split
  · rw [List.length_map]; omega
  · rw [List.length_append]; exact ⟨by simp, Nat.le_refl _⟩
theorem bothW_len : ∀ {us ws : List (Str × Int)}, ws.length ≤ (bothW ws us).length ∧ (bothW ws us).length ≤ ws.length + us.length
  | [], ws => ⟨Nat.le_refl _, Nat.le_refl _⟩
  | p :: us, ws => by
    have ih := bothW_len (us := us) (ws := setW ws p.1 p.2)
    have := @setW_len ws p.1 p.2
    show _ ≤ (bothW (setW ws p.1 p.2) us).length ∧ (bothW (setW ws p.1 p.2) us).length ≤ _
    rw [List.length_cons]
    omega
theorem OkW.both {ws us : List (Str × Int)} (h1 : OkW ws) (h2 : OkW us) (hl : (bothW ws us).length ≤ 8) : OkW (bothW ws us) :=
  ⟨fun z => h1.ne (List.eq_nil_of_length_eq_zero (by have := (@bothW_len us ws).1; rw [z] at this; exact Nat.le_zero.mp this)), hl, fun p hp => (bothW_mem hp).elim (h1.nm p) (h2.nm p), fun p hp => (bothW_mem hp).elim (h1.sp p) (h2.sp p), bothW_nd h1.nd⟩
theorem Cw.ins {C : Addr} {H : Hp} {p : Addr} {ws : List (Str × Int)} (h : Cw C H p ws) : ∃ dx fs, H p = some (.ins C dx fs) := by
  obtain ⟨dx, d, t, h1, _⟩ := h
  exact ⟨dx, _, h1⟩
end L3
end
section
namespace L3
open PySem PySem.Spec PyProof.Rows L2 LamX RZ
section
variable {ws us ws' us' : List (Str × Int)}
theorem nd_perm (h : ws'.Perm ws) (nd : (ws.map (·.1)).Nodup) : (ws'.map (·.1)).Nodup := (h.map (·.1)).nodup_iff.mpr nd
theorem OkW.perm (h : OkW ws) (p : ws'.Perm ws) : OkW ws' :=
  ⟨fun z => h.ne (List.eq_nil_of_length_eq_zero (by rw [← p.length_eq, z]; rfl)), by rw [p.length_eq]; exact h.le, fun q hq => h.nm q (p.mem_iff.mp hq), fun q hq => h.sp q (p.mem_iff.mp hq), nd_perm p h.nd⟩
end
section
variable {ws us : List (Str × Int)} {n : Str} {i : Int}
theorem OkW.set (h : OkW ws) (hn : nameB n = true) (hi : 1 ≤ i ∧ i ≤ 60) (hl : (setW ws n i).length ≤ 8) : OkW (setW ws n i) :=
  have h2 : OkW [(n, i)] := ⟨(fun z => nomatch z), by simp, fun p hp => by rw [List.mem_singleton.mp hp]; exact hn, fun p hp => by rw [List.mem_singleton.mp hp]; exact hi, by simp⟩
  OkW.both h h2 hl
end
def pwD (p : Str × Int) : PyData := .tuple [.str p.1, .int p.2]
theorem dpPw {K : PySem.W.Frag} {H : Hp} {t : Addr} {p : Str × Int} (h : H t = some (.tup [.str p.1, .int p.2])) : Dp K H (.ref t) (pwD p) := .tup (.inl (.inl h)) (.cons (.str _) (.cons (.int _) .nil))
theorem dpPws {K : PySem.W.Frag} {H : Hp} : ∀ {ws : List (Str × Int)} {us : List V}, us.length = ws.length → (∀ (i : Nat) v p, us[i]? = some v → ws[i]? = some p → ∃ t, v = .ref t ∧ H t = some (.tup [.str p.1, .int p.2])) → DpAll K H us (ws.map pwD)
  | [], [], _, _ => .nil
  | [], _ :: _, h, _ => by simp at h
  | _ :: _, [], h, _ => by simp at h
  | p :: ws, v :: us, h, k => by
    obtain ⟨t, rfl, ht⟩ := k 0 v p rfl rfl
    exact .cons (dpPw ht) (dpPws (by simpa using h) fun i v q h1 h2 => k (i + 1) v q (by simpa using h1) (by simpa using h2))
theorem PrW.dp {K : PySem.W.Frag} {H : Hp} {ts : List Addr} {ws : List (Str × Int)} (h : PrW H ts (ws.map wI)) : DpAll K H (ts.map V.ref) (ws.map pwD) := by
  refine dpPws (by rw [List.length_map, h.1, List.length_map]) fun i v p h1 h2 => ?_
  rw [List.getElem?_map] at h1
  cases e : ts[i]? with
  | none => rw [e] at h1; cases h1
  | some t =>
    rw [e] at h1
    cases h1
    exact ⟨t, rfl, h.2 i t (wI p) e (by rw [List.getElem?_map, h2]; rfl)⟩
section
variable {K : PySem.W.Frag} {σ : L2.St} {H : Hp} {Q : VK}
/-- [f(k) for k in d] that makes objects, the dict locked -/
theorem lcObjK {te : TE} {d : Addr} {o : Obj} {kvs : List (Key × V)} {j : Nat} {vs : List Nat} (Pv : Nat → V → Hp → Prop) (hP : ∀ i v H H', Pv i v H → Ex H H' → Pv i v H') (hU : ∀ i v H D l l', Pv i v H → H D = some (.lst l) → Pv i v (upd H D (.lst l')))
    (hd : H d = some (.frz o (.dK kvs))) (hz : kvs.length < sizeLine) (hw : ∀ x, wipe ((wipe σ vs).set j (some x)) vs = wipe σ vs)
    (step : ∀ (i : Nat) (kk : Key) (v : V) (H1 : Hp) (R : VK), kvs[i]? = some (kk, v) → Ex H H1 → (∀ u H2, Ex H1 H2 → Pv i u H2 → R u H2) → te ((wipe σ vs).set j (some (kV kk))) H1 R)
    (k : ∀ D H2 us, H D = none → Ex H H2 → H2 D = some (.lst us) → us.length = kvs.length → (∀ i v, us[i]? = some v → Pv i v H2) → Q (.ref D) H2) : LC (Itk d o kvs) (gName j) tYes te vs σ H Q := by
  intro D hD
  refine lc_it walk_keys (fun n H1 => Ex H H1 ∧ ∃ us : List V, H1 D = some (.lst us) ∧ us.length = n ∧ ∀ i v, us[i]? = some v → Pv i v H1) ⟨ex_new hD, [], upd_same, rfl, fun i v h => by simp at h⟩ (fun _ H1 _ p => p.1 _ _ hd) ?_ ?_
  · rintro n x H1 H2 hi ⟨e, us, h1, h2, h3⟩ ⟨rfl, kk, v, hkv, rfl⟩
    have hn : n < kvs.length := (List.getElem?_eq_some_iff.mp hkv).1
    show wipe _ vs = wipe σ vs ∧ _
    refine ⟨hw _, ?_⟩
    unfold tYes
    dsimp only
    refine iteT (step n kk v H2 _ hkv e fun u H3 e2 pv => ?_)
    have h1' := e2 _ _ h1
    refine ⟨_, h1', ?_, fun c o hc => ?_, us ++ [u], upd_same, by rw [List.length_append, h2]; rfl, fun i u' hu => ?_⟩
    · rw [h2]; omega
    · rw [upd_ne (ne_of_none hc hD)]; exact e2 _ _ (e _ _ hc)
    · refine hU _ _ _ _ _ _ ?_ h1'
      rcases Nat.lt_or_ge i us.length with hi | hi
      · rw [List.getElem?_append_left hi] at hu
        exact hP _ _ _ _ (h3 i u' hu) e2
      · rw [List.getElem?_append_right hi] at hu
        have e0 : i - us.length = 0 := by
          rcases Nat.eq_zero_or_pos (i - us.length) with z | z
          · exact z
          · rw [List.getElem?_eq_none (by simp; omega)] at hu; cases hu
        rw [e0] at hu
        have : i = n := by omega
        rw [this]
        cases (Option.some.inj hu)
        exact pv
  · rintro H1 ⟨e, us, h1, h2, h3⟩
    exact k D H1 us hD e h1 h2 h3
end
def wD (ws : List (Str × Int)) : PyData := .dict (ws.map fun p => (.str p.1, .int p.2))
/-- values told with their text, names and numbers too -/
inductive Vw (H : Hp) : V → Str → Prop
  | vl {v : V} {t : Str} : Vl H v t → Vw H v t
  | dw {p : Addr} {ws : List (Str × Int)} : H p = some (.dK (ws.map wI)) → OkW ws → Vw H (.ref p) (wD ws).shown
  | t1 {p : Addr} {z : Str} : H p = some (.tup [.str z]) → (PyData.tuple [.str z]).shown.length ≤ 1000 → Vw H (.ref p) (PyData.tuple [.str z]).shown
theorem Vw.exN {H H' : Hp} {v : V} {t : Str} (h : Vw H v t) (e : ExtN H H') : Vw H' v t := by
  cases h with
  | vl h => exact .vl (h.exN e)
  | dw h o => exact .dw (e _ _ h fun _ z => nomatch z) o
  | t1 h o => exact .t1 (e _ _ h fun _ z => nomatch z) o
def KpN (a : Addr) (H H' : Hp) : Prop := ∀ b o, b ≠ a → H b = some o → (∀ ps, o ≠ .tbl ps) → H' b = some o
section
variable {a : Addr} {H H1 H2 : Hp}
theorem KpN.refl (H : Hp) : KpN a H H := fun _ _ _ h _ => h
theorem KpN.trans (x : KpN a H H1) (y : KpN a H1 H2) : KpN a H H2 := fun b o n h z => y b o n (x b o n h z) z
theorem KpN.of (k : ∀ b o, b ≠ a → H b = some o → H1 b = some o) : KpN a H H1 := fun b o n h _ => k b o n h
theorem KpN.n (e : ExtN H H1) : KpN a H H1 := fun b o _ h z => e b o h z
variable {n : Nat} {p : Addr} {ws : List (Str × Int)} {xs : List V} {kvs : List (Key × V)} {C : Addr}
theorem dk_kp (h : H p = some (.dK kvs)) (pn : Pen H a n) (k : KpN a H H1) : H1 p = some (.dK kvs) := k _ _ (pn.ne h (fun c n z => by unfold PenO at z; cases z)) h (fun _ z => nomatch z)
theorem lst_kp (h : H p = some (.lst xs)) (pn : Pen H a n) (k : KpN a H H1) : H1 p = some (.lst xs) := k _ _ (pn.ne h (fun c n z => by unfold PenO at z; cases z)) h (fun _ z => nomatch z)
theorem tup_kp (h : H p = some (.tup xs)) (pn : Pen H a n) (k : KpN a H H1) : H1 p = some (.tup xs) := k _ _ (pn.ne h (fun c n z => by unfold PenO at z; cases z)) h (fun _ z => nomatch z)
theorem cw_kp (h : Cw C H p ws) (pn : Pen H a n) (k : KpN a H H1) : Cw C H1 p ws := by
  obtain ⟨dw, wd, wt, w1, w2, w3⟩ := h
  exact ⟨dw, wd, wt, k _ _ (pn.ne w1 (fun c n z => by unfold PenO at z; cases z)) w1 (fun _ z => nomatch z), dk_kp w2 pn k, tup_kp w3 pn k⟩
end
end L3
end
section
namespace L3
open PySem PySem.NumText PySem.Spec PyProof.Rows L2 LamX RZ
theorem name_ne {z : Str} (h : nameB z = true) : z ≠ "" := fun e => by rw [e] at h; exact absurd h (by decide +kernel)
theorem name_char {z : Str} (h : nameB z = true) : ∀ c ∈ z.cps.toList, c ∈ signsT.cps.toList := by
  unfold nameB at h
  rw [Bool.and_eq_true, Bool.and_eq_true, Bool.and_eq_true] at h
  exact fun c hc => of_decide_eq_true (List.all_eq_true.mp h.2.2 c hc)
theorem pt_sp {i : Int} (h : 1 ≤ i ∧ i ≤ 60) : Pt 31 (strOf i) := pt_str ⟨h.1, Int.le_trans h.2 (by decide)⟩
theorem Pt.mono {m n : Nat} {z : Str} (h : Pt m z) (k : m ≤ n) : Pt n z := ⟨Nat.le_trans h.1 k, h.2⟩
theorem Pt.ok {m : Nat} {z : Str} (h : Pt m z) : PyData.strOk z = true := by
  unfold PyData.strOk
  rw [← Array.all_toList]
  exact List.all_eq_true.mpr fun c hc => decide_eq_true (h.2 c hc)
end L3
end
section
namespace L2
open PySem PySem.Spec PyProof.Rows
/-- what == of two values tells, by the abstract heap -/
abbrev EqvB := V → V → Hp → Bool → Prop
def MonB (D : EqvB) : Prop := ∀ x y H H' b, Ext H H' → D x y H b → D x y H' b
def EqB (X : Cx) (n : Nat) (D : EqvB) : Prop :=
  ∀ (A : Around) (pins : List (Addr × Obj)) (s : Shared) (σ : St) (H : Hp) (x y : V) (u v : Value) (b : Bool), Sub X n A → Inv X pins σ H s → RelV x u → RelV y v → D x y H b →
    wpAny (model X.prog X.w) A (eqBool u v) (fun r s' => r = b ∧ ∃ H', Inv X pins σ H' s' ∧ Ext H H') X.xe s
def RcB (op : CmpOp) (g : Bool → Bool) (X : Cx) (n : Nat) (D : EqvB) : Prop :=
  ∀ (A : Around) (pins : List (Addr × Obj)) (s : Shared) (σ : St) (H : Hp) (x y : V) (u v : Value) (b : Bool), Sub X n A → Inv X pins σ H s → RelV x u → RelV y v → D x y H b →
    wpAny (model X.prog X.w) A (richCompare op u v) (fun r s' => r = .bool (g b) ∧ ∃ H', Inv X pins σ H' s' ∧ Ext H H') X.xe s
section
variable {X : Cx} {n m : Nat} {D D' : EqvB}
theorem EqB.mono (h : EqB X n D) (hn : n ≤ m) : EqB X m D := fun A pins s σ H x y u v b sb => h A pins s σ H x y u v b (sb.mono hn)
theorem RcB.mono {op : CmpOp} {g : Bool → Bool} (h : RcB op g X n D) (hn : n ≤ m) : RcB op g X m D := fun A pins s σ H x y u v b sb => h A pins s σ H x y u v b (sb.mono hn)
theorem EqB.or (h : EqB X n D) (h' : EqB X n D') : EqB X n (fun x y H b => D x y H b ∨ D' x y H b) := fun A pins s σ H x y u v b sb I rx ry d => by
  rcases d with d | d
  · exact h A pins s σ H x y u v b sb I rx ry d
  · exact h' A pins s σ H x y u v b sb I rx ry d
theorem EqB.imp (h : EqB X n D) (hd : ∀ x y H b, D' x y H b → D x y H b) : EqB X n D' := fun A pins s σ H x y u v b sb I rx ry d => h A pins s σ H x y u v b sb I rx ry (hd x y H b d)
theorem MonB.or (h : MonB D) (h' : MonB D') : MonB (fun x y H b => D x y H b ∨ D' x y H b) := fun x y H H' b e d => d.elim (fun d => .inl (h x y H H' b e d)) fun d => .inr (h' x y H H' b e d)
end
end L2
end
section
namespace L3
open PySem PySem.NumText PySem.Spec PyProof.Rows L2 LamX RZ
end L3
end
section
set_option exponentiation.threshold 2000
namespace L3
open PySem PySem.NumText PySem.Spec PyProof.Rows L2 LamX RZ
section
variable {H : Hp} {C CW CQ : Addr} {p : Addr} {ws : List (Str × Int)} {a b f : Int}
theorem St.ins (h : St C CW CQ H p ws a b f) : ∃ dx q l, H p = some (.ins C dx (stF6 q ws a b f ++ ([("lowest", .ref l)] : List (Str × V)))) ∧ Cw CW H q ws := by
  obtain ⟨dx, q, l, h1, h2, _⟩ := h
  exact ⟨dx, q, l, h1, h2⟩
end
end L3
namespace L3
open PySem PySem.NumText PySem.Spec PyProof.Rows L2 LamX RZ
end L3
namespace L3
open PySem PySem.NumText PySem.Spec PyProof.Rows L2 LamX RZ
end L3
end
section
namespace L3
open PySem PySem.Spec PyProof.Rows L2 LamX
end L3
end
section
set_option exponentiation.threshold 2000
namespace L3
open PySem PySem.NumText PySem.Spec PyProof.Rows L2 LamX RZ
/-- a plan: speeds, costs, a fee -/
def PlanT (H : Hp) (p : Addr) (ws : List (Str × Int)) (a b f : Int) : Prop := ∃ d, H p = some (.tup [.ref d, .int a, .int b, .int f]) ∧ H d = some (.dK (ws.map wI))
theorem PlanT.exN {H H' : Hp} {p : Addr} {ws : List (Str × Int)} {a b f : Int} (h : PlanT H p ws a b f) (e : ExtN H H') : PlanT H' p ws a b f := by
  obtain ⟨d, h1, h2⟩ := h
  exact ⟨d, e _ _ h1 (fun _ z => nomatch z), e _ _ h2 (fun _ z => nomatch z)⟩
theorem PlanT.ex {H H' : Hp} {p : Addr} {ws : List (Str × Int)} {a b f : Int} (h : PlanT H p ws a b f) (e : Ex H H') : PlanT H' p ws a b f := h.exN e.n
theorem PlanT.kp {H H' : Hp} {pa p : Addr} {n : Nat} {ws : List (Str × Int)} {a b f : Int} (h : PlanT H p ws a b f) (pn : Pen H pa n) (k : KpN pa H H') : PlanT H' p ws a b f := by
  obtain ⟨d, h1, h2⟩ := h
  exact ⟨d, tup_kp h1 pn k, dk_kp h2 pn k⟩
theorem PlanT.ne {H : Hp} {p d : Addr} {ws : List (Str × Int)} {a b f : Int} (h1 : H p = some (.tup [.ref d, .int a, .int b, .int f])) (h2 : H d = some (.dK (ws.map wI))) : d ≠ p := fun z => by rw [z, h1] at h2; cases h2
end L3
namespace L3
open PySem PySem.NumText PySem.Spec PyProof.Rows L2 LamX RZ
end L3
namespace L3
open PySem PySem.NumText PySem.Spec PyProof.Rows L2 LamX RZ
section
variable {C CW CQ : Addr} {H H' : Hp} {p pa : Addr} {n : Nat} {ws : List (Str × Int)} {a b f o u : Int}
theorem rt_kp (h : Rt CQ H p o u) (pn : Pen H pa n) (k : KpN pa H H') : Rt CQ H' p o u := by
  obtain ⟨dx, h1⟩ := h
  exact ⟨dx, k _ _ (pn.ne h1 (fun c n z => by unfold PenO at z; cases z)) h1 (fun _ z => nomatch z)⟩
theorem St.kp (h : St C CW CQ H p ws a b f) (pn : Pen H pa n) (k : KpN pa H H') : St C CW CQ H' p ws a b f := by
  obtain ⟨dx, q, l, h1, h2, h3⟩ := h
  exact ⟨dx, q, l, k _ _ (pn.ne h1 (fun c n z => by unfold PenO at z; cases z)) h1 (fun _ z => nomatch z), cw_kp h2 pn k, rt_kp h3 pn k⟩
end
end L3
namespace L3
open PySem PySem.NumText PySem.Spec PyProof.Rows L2 LamX RZ
end L3
namespace L3
open PySem PySem.NumText PySem.Spec PyProof.Rows L2 LamX RZ
end L3
end
section
namespace L3
open PySem PySem.NumText PySem.Spec PyProof.Rows L2 LamX RZ
theorem HdAt.take {H : Hp} {hl : Addr} {qs : List Addr} {ts : List (List V)} (b : Hds H qs ts) : ∀ n, Hds H (qs.take n) (ts.take n) := by
  intro n
  induction n generalizing qs ts with
  | zero => rw [List.take_zero, List.take_zero]; trivial
  | succ n ih =>
    cases qs with
    | nil => cases ts with
      | nil => trivial
      | cons t ts => exact b.elim
    | cons q qs => cases ts with
      | nil => exact b.elim
      | cons t ts => exact ⟨b.1, ih b.2⟩
theorem OutR.exN {K : PySem.W.Frag} {H H' : Hp} {x : V} {m : Int} (h : OutR K H x m) (e : ExtN H H') : OutR K H' x m := h.imp (fun h => h.exN e) id
end L3
namespace L3
open PySem PySem.NumText PySem.Spec PyProof.Rows L2 LamX RZ
section
variable {H G : Hp} {l : Addr} {xs : List V}
variable {C CW CQ p q : Addr} {n : Nat} {ws : List (Str × Int)} {a b f o u : Int}
theorem HdAt.kp {pa hp : Addr} {ts : List (List V)} (h : HdAt H hp ts) (pn : Pen H pa n) (k : KpN pa H G) : HdAt G hp ts := by
  obtain ⟨qs, a, b⟩ := h
  exact ⟨qs, lst_kp a pn k, b.imp fun q t h => tup_kp h pn k⟩
theorem HdAt.lst {hp : Addr} {ts : List (List V)} (h : HdAt H hp ts) : ∃ qs : List Addr, H hp = some (.lst (qs.map V.ref)) ∧ qs.length = ts.length := by
  obtain ⟨qs, a, b⟩ := h
  exact ⟨qs, a, b.len⟩
end
end L3
end
section
set_option exponentiation.threshold 2000
namespace L3
open PySem PySem.NumText PySem.Spec PyProof.Rows L2 LamX RZ
end L3
end
section
set_option exponentiation.threshold 2000
namespace L3
open PySem PySem.NumText PySem.Spec PyProof.Rows L2 LamX RZ
end L3
namespace L3
open PySem PySem.NumText PySem.Spec PyProof.Rows L2 LamX RZ
end L3
namespace L3
open PySem PySem.NumText PySem.Spec PyProof.Rows L2 LamX RZ
theorem strOf_noname {n : Int} (h : n.natAbs < 10 ^ 4000) : nameB (strOf n) = false := by
  cases hn : nameB (strOf n) with
  | false => rfl
  | true =>
    have fp := fig_parts (figB_strOf h)
    have hs := figs_sign fp.2.1
    have hne : (strOf n).cps.toList ≠ [] := fun z => by
      have := name_ne hn
      exact this (str_ext z)
    cases hz : (strOf n).cps.toList with
    | nil => exact absurd hz hne
    | cons c r =>
      have hm : c ∈ (strOf n).cps.toList := by rw [hz]; exact List.mem_cons_self
      have h1 := name_char hn c hm
      have h2 := hs c hm
      have h3 : ∀ x ∈ signsT.cps.toList, 97 ≤ x := by decide +kernel
      have := h3 c h1
      omega
/-- a word behind a crew -/
structure TW (u : Str) : Prop where
  pt : Pt 32 u
  no : 32 ∉ u.cps.toList
  nn : nameB u = false
theorem TW.small {i : Int} (h : 1 ≤ i ∧ i ≤ 60) : TW (strOf i) := ⟨(pt_sp h).mono (by decide), str32 _, strOf_noname (Nat.lt_of_le_of_lt (show i.natAbs ≤ 60 by omega) (Nat.lt_of_lt_of_le (by decide : 60 < 10 ^ 2) (Nat.pow_le_pow_right (by decide) (by decide))))⟩
end L3
end
section
namespace L3
open PySem PySem.NumText PySem.Spec PyProof.Rows L2 LamX RZ
def leQ (p q : Int × Int) : Prop := p.1 * q.2 ≤ q.1 * p.2
instance (p q : Int × Int) : Decidable (leQ p q) := by unfold leQ; infer_instance
end L3
end
section
set_option exponentiation.threshold 9000
namespace L3
open PySem PySem.NumText PySem.Spec PyProof.Rows L2 LamX RZ
end L3
end
section
namespace L3
open PySem PySem.NumText PySem.Spec PyProof.Rows L2 LamX RZ
end L3
end
section
namespace L3
open PySem PySem.NumText PySem.Spec PyProof.Rows L2 LamX RZ
/-- workers of a crew -/
structure SubW (us ws : List (Str × Int)) : Prop where
  ne : us ≠ []
  nd : (us.map (·.1)).Nodup
  mem : ∀ p ∈ us, p ∈ ws
theorem sub_perm : ∀ {us ws : List (Str × Int)}, us.Nodup → (∀ p ∈ us, p ∈ ws) → ∃ rest, ws.Perm (us ++ rest)
  | [], ws, _, _ => ⟨ws, List.Perm.refl _⟩
  | p :: r, ws, nd, h => by
    have hp := h p List.mem_cons_self
    have nd1 := List.nodup_cons.mp nd
    obtain ⟨rest, hr⟩ := sub_perm (us := r) (ws := ws.erase p) nd1.2 fun q hq => (List.mem_erase_of_ne (show q ≠ p from fun z => nd1.1 (by rw [← z]; exact hq))).mpr (h q (List.mem_cons_of_mem _ hq))
    exact ⟨rest, (List.perm_cons_erase hp).trans (List.Perm.cons p hr)⟩
theorem SubW.perm {us ws : List (Str × Int)} (s : SubW us ws) : ∃ rest, ws.Perm (us ++ rest) :=
  sub_perm (List.Pairwise.of_map (·.1) (fun a b hab z => hab (by rw [z])) s.nd) s.mem
theorem SubW.le {us ws : List (Str × Int)} (s : SubW us ws) (h : OkW ws) : us.length ≤ 8 := by
  obtain ⟨rest, hr⟩ := s.perm
  have := hr.length_eq
  rw [List.length_append] at this
  have := h.le
  omega
theorem SubW.ok {us ws : List (Str × Int)} (s : SubW us ws) (h : OkW ws) : OkW us := ⟨s.ne, s.le h, fun p hp => h.nm p (s.mem p hp), fun p hp => h.sp p (s.mem p hp), s.nd⟩
theorem SubW.min {us ws : List (Str × Int)} (s : SubW us ws) : minW ws ≤ minW us := by
  obtain ⟨p, hp, e⟩ := List.mem_map.mp (minW_mem s.ne)
  rw [← e]
  exact minW_le (List.mem_map_of_mem (s.mem p hp))
theorem SubW.max {us ws : List (Str × Int)} (s : SubW us ws) : maxW us ≤ maxW ws := by
  obtain ⟨p, hp, e⟩ := List.mem_map.mp (maxW_mem s.ne)
  rw [← e]
  exact le_maxW (List.mem_map_of_mem (s.mem p hp))
theorem sumW_nonneg {r : List (Str × Int)} (h : ∀ q ∈ r, 0 ≤ q.2) : 0 ≤ sumW r := by
  unfold sumW
  induction r with
  | nil => exact Int.le_refl _
  | cons c d ih =>
    rw [List.map_cons, List.sum_cons]
    have := h c List.mem_cons_self
    have := ih fun q hq => h q (List.mem_cons_of_mem _ hq)
    omega
theorem SubW.sum {us ws : List (Str × Int)} (s : SubW us ws) (h : OkW ws) : sumW us ≤ sumW ws := by
  obtain ⟨rest, hr⟩ := s.perm
  rw [sumW_perm hr]
  have h0 := sumW_nonneg (r := rest) fun q hq => by
    have := h.sp q (hr.mem_iff.mpr (List.mem_append_right _ hq))
    omega
  unfold sumW at *
  rw [List.map_append, List.sum_append]
  omega
end L3
end
section
namespace L3
open PySem PySem.NumText PySem.Spec PyProof.Rows L2 LamX RZ
end L3
end
section
namespace L3
open PySem PySem.NumText PySem.Spec PyProof.Rows L2 LamX RZ
end L3
end
section
namespace L3
open PySem PySem.Spec PyProof.Rows L2 LamX ItX
end L3
namespace L3
open PySem PySem.Spec PyProof.Rows PySem.Calls PyProof.V
end L3
namespace L3
open PySem PySem.Spec PyProof.Rows L2 LamX ItX
end L3
end
section
namespace L3
open PySem PySem.NumText PySem.Spec PyProof.Rows L2 LamX RZ
end L3
namespace L3
open PySem PySem.NumText PySem.Spec PyProof.Rows L2 LamX RZ
end L3
namespace L3
open PySem PySem.NumText PySem.Spec PyProof.Rows L2 LamX RZ
end L3
namespace L3
open PySem PySem.NumText PySem.Spec PyProof.Rows L2 LamX RZ
/-- a setting of these workers and maybe more, its costs wider, its fee as great -/
def GrS (C CW CQ : Addr) (H : Hp) (s : Addr) (U : List (Str × Int)) (a b f : Int) : Prop := ∃ U' a' b' f', St C CW CQ H s U' a' b' f' ∧ OkW U' ∧ OkS a' b' f' ∧ SubW U U' ∧ a' ≤ a ∧ b ≤ b' ∧ f ≤ f'
theorem GrS.ex {C CW CQ : Addr} {H H' : Hp} {s : Addr} {U : List (Str × Int)} {a b f : Int} (h : GrS C CW CQ H s U a b f) (e : Ex H H') : GrS C CW CQ H' s U a b f := by
  obtain ⟨U', a', b', f', h1, h2⟩ := h
  exact ⟨U', a', b', f', h1.ex e, h2⟩
theorem GrS.kp {C CW CQ : Addr} {H H' : Hp} {s pa : Addr} {n : Nat} {U : List (Str × Int)} {a b f : Int} (h : GrS C CW CQ H s U a b f) (pn : Pen H pa n) (k : KpN pa H H') : GrS C CW CQ H' s U a b f := by
  obtain ⟨U', a', b', f', h1, h2⟩ := h
  exact ⟨U', a', b', f', h1.kp pn k, h2⟩
theorem SubW.refl {U : List (Str × Int)} (ok : OkW U) : SubW U U := ⟨ok.ne, ok.nd, fun _ h => h⟩
end L3
namespace L3
open PySem PySem.NumText PySem.Spec PyProof.Rows L2 LamX RZ
end L3
namespace L3
open PySem PySem.NumText PySem.Spec PyProof.Rows L2 LamX RZ
theorem Plan.kp' {H H' : Hp} {p pa : Addr} {n : Nat} {ws : List (Str × Int)} {x y z : Int} (h : Plan H p ws x y z) (pn : Pen H pa n) (k : KpN pa H H') : Plan H' p ws x y z := by
  obtain ⟨d, h1, h2⟩ := h
  exact ⟨d, k _ _ (pn.ne h1 fun c n z => by unfold PenO at z; cases z) h1 (fun _ z => nomatch z), k _ _ (pn.ne h2 fun c n z => by unfold PenO at z; cases z) h2 (fun _ z => nomatch z)⟩
end L3
namespace L3
open PySem PySem.NumText PySem.Spec PyProof.Rows L2 LamX RZ
theorem Rts.drop {CQ : Addr} {H : Hp} {xs : List V} {rs : List (Int × Int)} (h : Rts CQ H xs rs) (k : Nat) : Rts CQ H (xs.drop k) (rs.drop k) :=
  ⟨by rw [List.length_drop, List.length_drop, h.1], fun i r hr => by
    rw [List.getElem?_drop] at hr ⊢
    exact h.2 _ r hr⟩
end L3
namespace L3
open PySem PySem.NumText PySem.Spec PyProof.Rows L2 LamX RZ
end L3
namespace L3
open PySem PySem.NumText PySem.Spec PyProof.Rows L2 LamX RZ
end L3
end
section
namespace L3
open PySem PySem.NumText PySem.Spec PyProof.Rows L2 LamX RZ
/-- the greatest moment at which a chunk ends: ft the fee's ticks, ka and kb the ticks of one item -/
def maxE (ft ka kb : Nat) (aF : Bool) : List Nat → Nat → Nat → Nat → Nat
  | [], _, _, m => m
  | c :: r, fa, fb, m => match (match Nat.beq fa fb with | true => aF | false => Nat.ble fa fb) with
    | true => (fun e => maxE ft ka kb aF r e fb (match Nat.ble e m with | true => m | false => e)) (fa + ft + c * ka)
    | false => (fun e => maxE ft ka kb aF r fa e (match Nat.ble e m with | true => m | false => e)) (fb + ft + c * kb)
def laterN (ft ka kb sa sb lt under need ra rb : Nat) (costs : List Nat) (aF : Bool) : Bool :=
  (fun t => !Nat.ble (sa * (t - ra * under) + sb * (t - rb * under)) need) (maxE ft ka kb aF costs ra rb 0 * under - lt)
def allM (p : Nat → Bool) : Nat → Bool
  | 0 => true
  | n + 1 => match p n with | true => allM p n | false => false
def allL {α : Type} (p : α → Bool) : List α → Bool
  | [] => true
  | a :: r => match p a with | true => allL p r | false => false
def anyM (p : Nat → Bool) : Nat → Bool
  | 0 => false
  | n + 1 => match p n with | true => true | false => anyM p n
def anyL {α : Type} (p : α → Bool) : List α → Bool
  | [] => false
  | a :: r => match p a with | true => true | false => anyL p r
theorem allM_at {p : Nat → Bool} : ∀ {n : Nat}, allM p n = true → ∀ i, i < n → p i = true
  | n + 1, h, i, hi => by
    unfold allM at h
    cases hp : p n with
    | false => rw [hp] at h; cases h
    | true =>
      rw [hp] at h
      by_cases e : i = n
      · rw [e]; exact hp
      · exact allM_at h i (by omega)
theorem allL_at {α : Type} {p : α → Bool} : ∀ {l : List α}, allL p l = true → ∀ x ∈ l, p x = true
  | a :: r, h, x, hx => by
    unfold allL at h
    cases hp : p a with
    | false => rw [hp] at h; cases h
    | true =>
      rw [hp] at h
      rcases List.mem_cons.mp hx with rfl | hx
      · exact hp
      · exact allL_at h x hx
theorem anyM_at {p : Nat → Bool} : ∀ {n : Nat}, anyM p n = true → ∃ i, i < n ∧ p i = true
  | n + 1, h => by
    unfold anyM at h
    cases hp : p n with
    | true => exact ⟨n, by omega, hp⟩
    | false =>
      rw [hp] at h
      obtain ⟨i, h1, h2⟩ := anyM_at h
      exact ⟨i, by omega, h2⟩
theorem anyL_at {α : Type} {p : α → Bool} : ∀ {l : List α}, anyL p l = true → ∃ x ∈ l, p x = true
  | a :: r, h => by
    unfold anyL at h
    cases hp : p a with
    | true => exact ⟨a, List.mem_cons_self .., hp⟩
    | false =>
      rw [hp] at h
      obtain ⟨i, h1, h2⟩ := anyL_at h
      exact ⟨i, List.mem_cons_of_mem _ h1, h2⟩
/-- all costs at their bounds, in the law's own order: shorter ones are made longer at their end -/
def addC (most s : Nat) (l : List (List Nat)) : List (List Nat) := l.flatMap fun c => match Nat.beq most 1 with | true => [c ++ [s]] | false => [c ++ [s], c ++ [s * most]]
def allC (most : Nat) (sz : List Nat) : List (List Nat) := sz.foldl (fun l s => addC most s l) [[]]
def sm : List Nat → Nat
  | [] => 0
  | a :: r => a + sm r
def spanN (sz : List Nat) (most fee tick : Nat) : Nat := (sm sz * most + sz.length * fee) * tick
/-- no world is later than l over u -/
def neverN (ft ka kb sa sb lt under tick : Nat) (cs : List (List Nat)) (n : Nat) : Bool :=
  allL (fun c => (fun need => allM (fun m => match laterN ft ka kb sa sb lt under need 0 m c true with
    | true => false
    | false => match laterN ft ka kb sa sb lt under need 0 m c false with
      | true => false
      | false => match laterN ft ka kb sa sb lt under need m 0 c true with
        | true => false
        | false => !laterN ft ka kb sa sb lt under need m 0 c false) n) (sm c * tick * under)) cs
/-- some world is later than the least less -/
def metN (ft ka kb sa sb lt under tick : Nat) (cs : List (List Nat)) (n : Nat) : Bool :=
  anyL (fun c => (fun need => anyM (fun m => match laterN ft ka kb sa sb lt under need 0 m c true with
    | true => true
    | false => match laterN ft ka kb sa sb lt under need 0 m c false with
      | true => true
      | false => match laterN ft ka kb sa sb lt under need m 0 c true with
        | true => true
        | false => laterN ft ka kb sa sb lt under need m 0 c false) n) (sm c * tick * under)) cs
def big : Nat := 10 ^ 40
def okN (sa sb tick most fee l u : Nat) (sz : List Nat) : Bool :=
  match neverN (fee * tick) (tick / sa) (tick / sb) sa sb (l * tick) u tick (allC most sz) (spanN sz most fee tick + 1) with
  | false => false
  | true => metN (fee * tick) (tick / sa) (tick / sb) sa sb ((l * big - 1) * tick) (u * big) tick (allC most sz) (spanN sz most fee tick + 1)
def okCase (sa sb tick most fee : Nat) (sz : List Nat) : Bool :=
  (fun (L : Nat → Int × Int) => allM (fun i => match allM (fun j => decide (leQ (L j) (L i))) sz.length with
    | false => true
    | true => match L i with
      | (.ofNat l, .ofNat u) => okN sa sb tick most fee l u sz
      | _ => false) sz.length) (fun j => lateI [("a", (sa : Int)), ("b", (sb : Int))] 1 most fee (sz.map Int.ofNat) j)
def sizes3 : List (List Nat) := ([1,2,3].map fun a => [a]) ++ ([1,2,3].flatMap fun a => [1,2,3].map fun b => [a, b]) ++ ([1,2,3].flatMap fun a => [1,2,3].flatMap fun b => [1,2,3].map fun c => [a, b, c])
def okAll (sa sb tick most : Nat) : Bool := allM (fun fee => allL (okCase sa sb tick most fee) sizes3) 3
theorem all11_1 : okAll 1 1 1 1 = true := by decide +kernel
theorem all12_1 : okAll 1 2 2 1 = true := by decide +kernel
theorem all31_1 : okAll 3 1 3 1 = true := by decide +kernel
theorem all22_1 : okAll 2 2 2 1 = true := by decide +kernel
theorem all11_2 : okAll 1 1 1 2 = true := by decide +kernel
theorem all12_2 : okAll 1 2 2 2 = true := by decide +kernel
theorem all31_2 : okAll 3 1 3 2 = true := by decide +kernel
theorem all22_2 : okAll 2 2 2 2 = true := by decide +kernel
theorem all13 : okN 1 3 3 1 1 10 3 [2, 2] = true := by decide +kernel
end L3
end
section
namespace L3
open PySem PySem.NumText PySem.Spec PyProof.Rows L2 LamX RZ
/-- what is used of let -/
structure LetOk (ℓ : Int → Int → Int) : Prop where
  lo : ∀ r j, 0 ≤ r → 0 ≤ ℓ r j ∧ ℓ r j ≤ r
  up : ∀ r j, 0 ≤ r → ℓ r j ≤ ℓ (r + 1) j ∧ ℓ (r + 1) j ≤ ℓ r j + 1
  pl : ∀ r j, ℓ r (j + 1) ≤ ℓ r j
theorem LetOk.mono {ℓ : Int → Int → Int} (o : LetOk ℓ) {r : Int} (j : Int) (hr : 0 ≤ r) : ∀ (k : Nat), r - ℓ r j ≤ (r + (k : Int)) - ℓ (r + (k : Int)) j ∧ ℓ r j ≤ ℓ (r + (k : Int)) j
  | 0 => by rw [Int.natCast_zero, Int.add_zero]; exact ⟨Int.le_refl _, Int.le_refl _⟩
  | k + 1 => by
    obtain ⟨h1, h2⟩ := o.mono j hr k
    have h3 := o.up (r + (k : Int)) j (by omega)
    have e : r + ((k + 1 : Nat) : Int) = r + (k : Int) + 1 := by omega
    rw [e]
    omega
/-- a greater rest leaves no less, and lets no less -/
theorem LetOk.left {ℓ : Int → Int → Int} (o : LetOk ℓ) {r r' : Int} (j : Int) (hr : 0 ≤ r) (h : r ≤ r') : r - ℓ r j ≤ r' - ℓ r' j ∧ ℓ r j ≤ ℓ r' j := by
  have := o.mono j hr (r' - r).toNat
  rw [show r + ((r' - r).toNat : Int) = r' by omega] at this
  exact this
theorem LetOk.later {ℓ : Int → Int → Int} (o : LetOk ℓ) (r j : Int) : ∀ k : Nat, ℓ r (j + (k : Int)) ≤ ℓ r j
  | 0 => by rw [Int.natCast_zero, Int.add_zero]; exact Int.le_refl _
  | k + 1 => by
    have := o.later r j k
    have h2 := o.pl r (j + (k : Int))
    rw [show j + ((k + 1 : Nat) : Int) = j + (k : Int) + 1 by omega]
    omega
/-- the greedy list so far: each size is the greatest let one -/
structure GrAt (ℓ : Int → Int → Int) (total : Int) (sizes rests : List Int) : Prop where
  at_ : ∀ (i : Nat) s, sizes[i]? = some s → rests[i]? = some (total - (sizes.take i).sum) ∧ 1 ≤ s ∧ s = ℓ (total - (sizes.take i).sum) (i : Int)
  le : sizes.sum ≤ total
/-- what greedy returns -/
structure GrOut (ℓ : Int → Int → Int) (total : Int) (most : Nat) (sizes rests : List Int) : Prop where
  g : GrAt ℓ total sizes rests
  ms : sizes.length ≤ most
  en : (rests.length = sizes.length ∧ sizes.sum = total) ∨ (rests.length = sizes.length + 1 ∧ sizes.sum < total ∧ rests[sizes.length]? = some (total - sizes.sum) ∧ (sizes.length = most ∨ ℓ (total - sizes.sum) (sizes.length : Int) = 0))
theorem GrAt.nil {ℓ : Int → Int → Int} {total : Int} (h : 0 ≤ total) : GrAt ℓ total [] [] := ⟨(fun i s h => nomatch h), h⟩
theorem GrAt.snoc {ℓ : Int → Int → Int} {total : Int} {sizes rests : List Int} (g : GrAt ℓ total sizes rests) (hl : rests.length = sizes.length) {s : Int} (h1 : 1 ≤ s) (hs : s = ℓ (total - sizes.sum) (sizes.length : Int)) (hle : s ≤ total - sizes.sum) : GrAt ℓ total (sizes ++ [s]) (rests ++ [total - sizes.sum]) := by
  refine ⟨fun i x hx => ?_, by rw [List.sum_append]; simp; omega⟩
  rcases Nat.lt_trichotomy i sizes.length with c | c | c
  · rw [List.getElem?_append_left c] at hx
    rw [List.getElem?_append_left (by omega), List.take_append_of_le_length (by omega)]
    exact g.at_ i x hx
  · subst c
    rw [List.getElem?_append_right (Nat.le_refl _), Nat.sub_self] at hx
    cases hx
    rw [List.getElem?_append_right (by omega), hl, Nat.sub_self, List.take_left]
    exact ⟨rfl, h1, hs⟩
  · rw [List.getElem?_eq_none (by rw [List.length_append, List.length_singleton]; omega)] at hx
    cases hx
theorem GrAt.one {ℓ : Int → Int → Int} {total : Int} {sizes rests : List Int} (g : GrAt ℓ total sizes rests) : ∀ s ∈ sizes, 1 ≤ s := fun s hs => by
  obtain ⟨i, hi⟩ := List.mem_iff_getElem?.mp hs
  exact (g.at_ i s hi).2.1
theorem sum_ge_len : ∀ {ns : List Int}, (∀ n ∈ ns, 1 ≤ n) → (ns.length : Int) ≤ ns.sum
  | [], _ => by simp
  | n :: r, h => by
    have h1 := h n List.mem_cons_self
    have ih := sum_ge_len (ns := r) fun m hm => h m (List.mem_cons_of_mem _ hm)
    rw [List.sum_cons, List.length_cons]
    omega
theorem GrAt.len {ℓ : Int → Int → Int} {total : Int} {sizes rests : List Int} (g : GrAt ℓ total sizes rests) : (sizes.length : Int) ≤ total := Int.le_trans (sum_ge_len g.one) g.le
/-- the rest at a place -/
def restG (total : Int) (sizes : List Int) (i : Nat) : Int := total - (sizes.take i).sum
theorem restG_succ {total : Int} {sizes : List Int} {i : Nat} (h : i < sizes.length) : restG total sizes (i + 1) = restG total sizes i - sizes[i] := by
  unfold restG
  rw [take_snoc (List.getElem?_eq_getElem h), List.sum_append, List.sum_cons, List.sum_nil]
  omega
theorem restG_all {total : Int} {sizes : List Int} {i : Nat} (h : sizes.length ≤ i) : restG total sizes i = total - sizes.sum := by
  unfold restG
  rw [List.take_of_length_le h]
theorem GrAt.size {ℓ : Int → Int → Int} {total : Int} {sizes rests : List Int} (g : GrAt ℓ total sizes rests) {i : Nat} (h : i < sizes.length) : sizes[i] = ℓ (restG total sizes i) (i : Int) ∧ 1 ≤ sizes[i] ∧ rests[i]? = some (restG total sizes i) := by
  obtain ⟨h1, h2, h3⟩ := g.at_ i _ (List.getElem?_eq_getElem h)
  exact ⟨h3, h2, h1⟩
end L3
end
section
namespace L3
open PySem PySem.NumText PySem.Spec PyProof.Rows L2 LamX RZ
/-- the rests behind one chunk more -/
structure Beh (ℓ : Int → Int → Int) (j : Int) (some_ zs : List Int) : Prop where
  up : zs.Pairwise (· ≤ ·)
  mem : ∀ z, z ∈ zs ↔ ∃ r ∈ some_, ∃ s, 1 ≤ s ∧ s ≤ ℓ r j ∧ z = r - s
/-- all rests left behind so many chunks: none is less than the greedy one, which is there, too -/
structure AllB (total : Int) (sizes : List Int) (k : Nat) (zs : List Int) : Prop where
  up : zs.Pairwise (· ≤ ·)
  ge : ∀ z ∈ zs, restG total sizes k ≤ z ∧ z ≤ total
  has : k ≤ sizes.length → restG total sizes k ∈ zs
theorem GrAt.rest_pos {ℓ : Int → Int → Int} {total : Int} {sizes rests : List Int} (g : GrAt ℓ total sizes rests) (k : Nat) : 0 ≤ restG total sizes k := by
  unfold restG
  have h1 := g.le
  have e := sum_split sizes k
  have h2 : 0 ≤ (sizes.drop k).sum := by
    have := sum_ge_len (ns := sizes.drop k) fun n hn => g.one n (List.mem_of_mem_drop hn)
    omega
  omega
theorem AllB.next {ℓ : Int → Int → Int} (o : LetOk ℓ) {total : Int} {sizes rests : List Int} {most : Nat} (g : GrOut ℓ total most sizes rests) (hm : sizes.length < most) {k : Nat} {zs ys : List Int} (h : AllB total sizes k zs) (hb : Beh ℓ (k : Int) zs ys) : AllB total sizes (k + 1) ys := by
  have hR := g.g.rest_pos k
  refine ⟨hb.up, fun y hy => ?_, fun hk => ?_⟩
  · obtain ⟨r, hr, s, s1, s2, rfl⟩ := (hb.mem y).mp hy
    obtain ⟨h1, h2⟩ := h.ge r hr
    have hl := (o.left (k : Int) hR h1).1
    have r0 : 0 ≤ r := Int.le_trans hR h1
    refine ⟨?_, by omega⟩
    rcases Nat.lt_or_ge k sizes.length with c | c
    · rw [restG_succ c, (g.g.size c).1]
      omega
    · rw [restG_all (by omega)]
      rw [restG_all c] at hl hR
      rcases g.en with ⟨_, e⟩ | ⟨_, _, _, e | e⟩
      · have := (o.lo r (k : Int) r0).2
        omega
      · omega
      · have := o.later (total - sizes.sum) (sizes.length : Int) (k - sizes.length)
        rw [show (sizes.length : Int) + ((k - sizes.length : Nat) : Int) = (k : Int) by omega, e] at this
        omega
  · have hk' : k < sizes.length := by omega
    rw [restG_succ hk']
    obtain ⟨e1, e2, _⟩ := g.g.size hk'
    exact (hb.mem _).mpr ⟨_, h.has (by omega), sizes[k], e2, by rw [← e1]; exact Int.le_refl _, rfl⟩
end L3
end
section
namespace L3
open PySem PySem.NumText PySem.Spec PyProof.Rows L2 LamX RZ
/-- the rests behind one chunk, so far -/
structure BehAt (ℓ : Int → Int → Int) (j : Int) (zs ks : List Int) : Prop where
  nd : ks.Nodup
  mem : ∀ z, z ∈ ks ↔ ∃ r ∈ zs, ∃ s, 1 ≤ s ∧ s ≤ ℓ r j ∧ z = r - s
theorem BehAt.nil {ℓ : Int → Int → Int} {j : Int} : BehAt ℓ j [] [] := ⟨List.nodup_nil, fun z => by simp⟩
/-- so far, and of the last rest sizes up to so many -/
structure BehIn (ℓ : Int → Int → Int) (j : Int) (zs : List Int) (r : Int) (m : Int) (ks : List Int) : Prop where
  nd : ks.Nodup
  mem : ∀ z, z ∈ ks ↔ (∃ r ∈ zs, ∃ s, 1 ≤ s ∧ s ≤ ℓ r j ∧ z = r - s) ∨ ∃ s, 1 ≤ s ∧ s ≤ m ∧ s ≤ ℓ r j ∧ z = r - s
theorem BehAt.go {ℓ : Int → Int → Int} {j : Int} {zs ks : List Int} (h : BehAt ℓ j zs ks) (r : Int) : BehIn ℓ j zs r 0 ks := ⟨h.nd, fun z => by
  rw [h.mem]
  constructor
  · exact .inl
  · rintro (h | ⟨s, h1, h2, _⟩)
    · exact h
    · omega⟩
theorem BehIn.done {ℓ : Int → Int → Int} {j : Int} {zs ks : List Int} {r : Int} (h : BehIn ℓ j zs r r ks) (hl : ℓ r j ≤ r) : BehAt ℓ j (zs ++ [r]) ks := ⟨h.nd, fun z => by
  rw [h.mem]
  constructor
  · rintro (⟨x, h1, h2⟩ | ⟨s, h1, h2, h3, h4⟩)
    · exact ⟨x, List.mem_append_left _ h1, h2⟩
    · exact ⟨r, by simp, s, h1, h3, h4⟩
  · rintro ⟨x, h1, s, h2, h3, h4⟩
    rcases List.mem_append.mp h1 with h1 | h1
    · exact .inl ⟨x, h1, s, h2, h3, h4⟩
    · rw [List.mem_singleton.mp h1] at h3 h4
      exact .inr ⟨s, h2, by omega, h3, h4⟩⟩
end L3
end
section
namespace L3
open PySem PySem.NumText PySem.Spec PyProof.Rows L2 LamX RZ
/-- two workers' numbers, in either order -/
def two (o : Bool) (x y : Int) : List (Str × Int) := match o with | true => [("a", x), ("b", y)] | false => [("b", y), ("a", x)]
theorem two_nd (o : Bool) (x y : Int) : ((two o x y).map (·.1)).Nodup := by
  cases o
  · show ([("b" : Str), "a"] : List Str).Nodup
    decide
  · show ([("a" : Str), "b"] : List Str).Nodup
    decide
theorem two_len (o : Bool) (x y : Int) : (two o x y).length = 2 := by cases o <;> rfl
def spd (sa sb : Int) (n : Str) : Int := if n = "a" then sa else sb
def offI (s r M : Int) : Int := if r < M then s * (M - r) else 0
def offL (sa sb M : Int) (l : List (Str × Int)) : Int := (l.map fun q => offI (spd sa sb q.1) q.2 M).sum
theorem offL_two (sa sb M : Int) (o : Bool) (x y : Int) : offL sa sb M (two o x y) = offI sa x M + offI sb y M := by
  have ea : spd sa sb "a" = sa := if_pos rfl
  have eb : spd sa sb "b" = sb := if_neg (by decide)
  cases o
  · unfold offL two
    simp only [List.map_cons, List.map_nil, List.sum_cons, List.sum_nil, ea, eb]
    omega
  · unfold offL two
    simp only [List.map_cons, List.map_nil, List.sum_cons, List.sum_nil, ea, eb]
    omega
theorem offL_snoc (sa sb M : Int) (l : List (Str × Int)) (q : Str × Int) : offL sa sb M (l ++ [q]) = offL sa sb M l + offI (spd sa sb q.1) q.2 M := by
  unfold offL
  rw [List.map_append, List.sum_append]
  simp
/-- the crews of the law, with their common multiple -/
def Crew2 (sa sb tk : Nat) : Prop := (sa, sb, tk) ∈ [(1, 1, 1), (1, 2, 2), (3, 1, 3), (2, 2, 2), (1, 3, 3)]
def pairW (sa sb : Nat) : List (Str × Int) := [("a", (sa : Int)), ("b", (sb : Int))]
theorem Crew2.small {sa sb tk : Nat} (h : Crew2 sa sb tk) : 1 ≤ sa ∧ sa ≤ 3 ∧ 1 ≤ sb ∧ sb ≤ 3 ∧ 1 ≤ tk ∧ tk ≤ 3 := by
  unfold Crew2 at h
  simp only [List.mem_cons, List.not_mem_nil, or_false, Prod.mk.injEq] at h
  omega
theorem valI_two {sa sb : Nat} {o : Bool} {x y : Int} {q : Str × Int} (h : q ∈ two o x y) : valV ((pairW sa sb).map wI) (Sum.inr q.1) = some (.int (spd sa sb q.1)) := by
  have : q = (("a" : Str), x) ∨ q = (("b" : Str), y) := by
    cases o
    · have h : q = (("b" : Str), y) ∨ q = (("a" : Str), x) := by simpa [two] using h
      exact h.symm
    · simpa [two] using h
  rcases this with rfl | rfl
  · rfl
  · rfl
theorem lcm_moreT {s d j : Nat} (hs : 1 ≤ s) (hj : j * s ≤ Nat.lcm s d) (h : ¬ (j * s) % d = 0) : (j + 1) * s ≤ Nat.lcm s d := by
  obtain ⟨q, hq⟩ := Nat.dvd_lcm_left s d
  have hd := Nat.dvd_lcm_right s d
  have h1 : j ≤ q := Nat.le_of_mul_le_mul_right (by rw [Nat.mul_comm q s, ← hq]; exact hj) hs
  have h2 : j ≠ q := fun z => h (by rw [z, Nat.mul_comm q s, ← hq]; exact Nat.mod_eq_zero_of_dvd hd)
  rw [hq, Nat.mul_comm s q]
  exact Nat.mul_le_mul_right s (by omega)
theorem lcm_doneT {s d j : Nat} (hs : 1 ≤ s) (h1 : 1 ≤ j) (hj : j * s ≤ Nat.lcm s d) (h : (j * s) % d = 0) : j * s = Nat.lcm s d :=
  Nat.le_antisymm hj (Nat.le_of_dvd (Nat.mul_pos h1 hs) (Nat.lcm_dvd (Nat.dvd_mul_left s j) (Nat.dvd_of_mod_eq_zero h)))
theorem Crew2.lcm {sa sb tk : Nat} (h : Crew2 sa sb tk) : Nat.lcm sa sb = tk := by
  unfold Crew2 at h
  simp only [List.mem_cons, List.not_mem_nil, or_false, Prod.mk.injEq] at h
  rcases h with ⟨rfl, rfl, rfl⟩ | ⟨rfl, rfl, rfl⟩ | ⟨rfl, rfl, rfl⟩ | ⟨rfl, rfl, rfl⟩ | ⟨rfl, rfl, rfl⟩ <;> rfl
def spOffT : Sp := fun vs H Q _ => ∃ p d sa sb tk a b f o x y M, vs = [.ref p, .ref d, .int M] ∧ Plan H p (pairW sa sb) a b f ∧ Crew2 sa sb tk ∧ H d = some (.dK ((two o x y).map wI)) ∧ (∀ ds, H p = some (.dK (plF ds a b f)) → ds ≠ d) ∧ ∀ H', Ex H H' → Q (.int (offI sa x M + offI sb y M)) H'
def spComT : Sp := fun vs H Q _ => ∃ p sa sb tk a b f, vs = [.ref p] ∧ Plan H p (pairW sa sb) a b f ∧ Crew2 sa sb tk ∧ ∀ H', Ex H H' → Q (.int (tk : Int)) H'
end L3
end
section
set_option exponentiation.threshold 9000
local macro_rules | `(tactic| tm_at "s1") => `(tactic| first
  | with_reducible first
    | refine L3.s_seq ?_ | refine L3.s_asg ?_ | refine L3.s_op ?_ | refine L3.s_c ?_ | refine L3.s_cb ?_ | refine L3.s_cons ?_ | refine L3.s_nil ?_ | refine L3.s_test ?_ | refine L3.s_bl ?_
    | refine L3.s_I0 ?_ | refine L3.s_and ?_ | refine L3.s_or ?_ | refine L3.s_not ?_ | refine L3.s_if ?_ | refine L3.s_next ?_ | refine L3.s_ret ?_ | refine L3.s_retN ?_ | refine L3.s_asgS ?_ | refine L3.s_drop ?_
    | refine L3.s_un ?_ | refine L3.s_U ?_ | refine L3.s_int ?_ | refine L3.s_intB ?_ | refine L3.s_abs ?_ | refine L3.s_andV ?_ | refine L3.s_orV ?_ | refine L3.s_notV ?_ | refine L3.s_ifE ?_ | refine L3.s_call ?_ | refine L3.s_lst ?_ | refine L3.s_tup ?_ | refine L3.s_tB ?_
    | refine L3.s_addI ?_ | refine L3.s_inS ?_ | refine L3.s_ninS ?_ | refine L3.s_slice ?_ | refine L3.s_part ?_ | refine L3.s_partI ?_ | refine L3.s_nopart ?_ | refine L3.s_cI ?_ | refine L3.s_cB ?_ | refine L3.s_chain ?_ | refine L3.s_bm ?_ | refine L3.s_lcS ?_ | refine L3.s_lcR ?_ | refine L3.s_strE ?_
    | refine L2.iteT ?_ | refine L2.iteF ?_ | refine L3.iteNF ?_ | refine L3.iteNT ?_
    | refine L3.s_eqI ?_ | refine L3.s_neI ?_ | refine L3.s_eqS ?_ | refine L3.s_neS ?_
    | refine L3.s_pair ?_ | refine L3.s_pair2 ?_ | refine L3.s_fld ?_ | refine L3.s_make ?_ | refine L3.s_m1 ?_ | refine L3.s_isstr ?_
    | refine L3.s_xfV ?_ | refine L3.s_lstN ?_ | refine L3.s_callF ?_ | refine L3.s_lcL ?_ | refine L3.s_par3 ?_ | refine L3.s_trip ?_ | refine L3.s_asgT' ?_ | refine L3.s_gC ?_ | refine L3.s_gN ?_ | refine L3.s_fldG ?_ | refine L3.s_raise1 ?_ | refine L3.s_raise2 ?_ | refine L3.s_star ?_ | refine L3.s_mkCR ?_ | refine L3.s_lcZ ?_ | refine L3.s_forL ?_ | refine L3.s_forT ?_ | refine L3.s_gNm ?_ | refine L3.s_forE ?_ | refine L3.s_stC ?_ | refine L3.s_cmC ?_ | refine L3.s_forR1 ?_ | refine L3.s_lcTp ?_ | refine L3.s_forZ ?_ | refine L3.s_orT ?_ | refine L3.s_mt ?_ | refine L3.s_revT ?_ | refine L3.s_revL ?_ | refine L3.s_slOwn ?_ | refine L3.s_sl3 ?_ | refine L3.s_lcO ?_ | refine L3.s_stR ?_
    | refine L3.s_dcL ?_ | refine L3.s_dcT ?_ | refine L3.s_dget ?_ | refine L3.s_forET ?_ | refine L3.s_din ?_ | refine L3.s_dnin ?_ | refine L3.s_mkKV ?_
    | refine L3.s_isN ?_ | refine L3.s_isB ?_ | refine L3.s_nisN ?_ | refine L3.s_nisB ?_
  | ((with_reducible refine' L3.s_var ?e ?_); (case e => rfl))
  | ((with_reducible refine' L3.s_aug ?e ?_); (case e => rfl))
  | ((with_reducible refine' L3.s_pow ?c ?_); (case c => exact ⟨by decide, by decide, by decide⟩)))
local macro_rules | `(tactic| tm_at "s") => `(tactic| repeat tm_at "s1")
namespace K30
open PySem PySem.NumText PySem.Spec PyProof.Rows L2 L3 LamX RZ ClX
abbrev s__law_offered : Stmt := topS 87
theorem sc__law_offered : FnScope ["_law_plan", "_law_ready", "_law_moment", "_law_found", "_law_name"] ["_law_plan", "_law_ready", "_law_moment"] (defScope s__law_offered) := ⟨rfl, rfl, rfl, by decide +kernel, rfl, by decide +kernel, by decide +kernel⟩
abbrev s__law_common : Stmt := topS 85
theorem sc__law_common : FnScope ["_law_plan", "_law_found", "_law_name", "_law_more"] ["_law_plan"] (defScope s__law_common) := ⟨rfl, rfl, rfl, by decide +kernel, rfl, by decide +kernel, by decide +kernel⟩
section
variable {P : Program} {w : World} {K : PySem.W.Frag} {mg : Str → Option Value} {base : Heap}
theorem ok_offT {f : Addr} {fd : FuncData} (F : Fun K "_law_offered" "_law_offered" s__law_offered f fd) :
    FnG P w K mg base CX0 1 f fd ["_law_plan", "_law_ready", "_law_moment"] spOffT := by
  refine funG F sc__law_offered (fun vs H Q E h => ?_) (fun cd A' fr s H vs Q E hr hg h => ?_)
  · obtain ⟨p, d, sa, sb, tk, a, b, f, o, x, y, M, rfl, _⟩ := h; rfl
  · obtain ⟨p, d, sa, sb, tk, a, b, f, o, x, y, M, rfl, pl, hc, hd, hnd, k⟩ := h
    refine ⟨_, (pss_cons (ps_set (i := 3) sc__law_offered.nd rfl (Or.inl rfl) pe_int)
      (pss_cons (ps_lock (ps_for (passes_of rfl) rfl (pi_keys (pv 1)) (pg_name (i := 4) sc__law_offered.nd rfl (Or.inl rfl)) (pss_one (ps_if (pt_cmpR op_gt (pv 2) (pe_dget (hu_of hr) (pv 1) (pv 4) (fun _ _ => rfl)) (nomark _)) (pss_one (ps_set (i := 3) sc__law_offered.nd rfl (Or.inl rfl) (pe_op opAdd (pv 3) (pe_op opMul (pe_dget (hu_of hr) (pe_dget (hu_of hr) (pv 0) pe_str (fun _ _ => rfl)) (pv 4) (fun _ _ => rfl)) (pe_op op_sub (pv 2) (pe_dget (hu_of hr) (pv 1) (pv 4) (fun _ _ => rfl))))))) pss_nil))))
      (pss_one (ps_ret (pv 3))))), ?_⟩
    tm_at "s"
    obtain ⟨ds, hp, hds⟩ := id pl
    have dd : d ≠ p := fun z => by
      rw [z, hp] at hd
      have := congrArg List.length (HO.dK.inj (Option.some.inj hd))
      rw [List.length_map, two_len] at this
      simp [plF] at this
    obtain ⟨s1, s2, s3, s4, _, _⟩ := hc.small
    refine s_lockS hd fun od => ?_
    refine s_forK ?_
    tm_at "s"
    refine ⟨d, od, rfl, .inl ⟨_, upd_same, ?_⟩⟩
    have hdd := hnd ds hp
    refine forKd (fun i σ H' => ∃ (v4 : Option V), σ = [some (.ref p), some (.ref d), some (.int M), some (.int (offL sa sb M ((two o x y).take i))), v4] ∧ H' d = some (.frz od (.dK ((two o x y).map wI))) ∧ ∀ c o', c ≠ d → H c = some o' → H' c = some o') ⟨_, rfl, upd_same, fun c o' hc h => by rw [upd_ne hc]; exact h⟩ (fun i σ H' ⟨_, _, h, _⟩ => h) ?_ ?_
    · rintro i kk v _ H2 hkv ⟨v4, rfl, j2, jk⟩
      rw [List.getElem?_map] at hkv
      obtain ⟨q, hq, e⟩ : ∃ q, (two o x y)[i]? = some q ∧ wI q = (kk, v) := by
        cases h : (two o x y)[i]? with
        | none => rw [h] at hkv; cases hkv
        | some q => rw [h] at hkv; exact ⟨q, rfl, Option.some.inj hkv⟩
      cases e
      have hm := List.mem_of_getElem? hq
      have hv : valV ((two o x y).map wI) (Sum.inr q.1) = some (.int q.2) := valV_mem (two_nd o x y) hm
      have hst : (two o x y).take (i + 1) = (two o x y).take i ++ [q] := take_snoc hq
      rw [hst, offL_snoc]
      refine s_gNm ?_
      try dsimp only
      tm_at "s"
      refine s_dgS (.inr ⟨od, j2⟩) hv ?_
      refine ⟨_, _, rfl, rfl, ?_⟩
      refine ⟨_, rfl, ?_⟩
      unfold offI
      by_cases z : q.2 < M
      · rw [decide_eq_true z, if_pos z]
        refine iteT ?_
        try dsimp only
        tm_at "s"
        refine s_dgS (.inl (jk _ _ (Ne.symm dd) hp)) rfl ?_
        try dsimp only
        tm_at "s"
        refine s_dgS (.inl (jk _ _ hdd hds)) (valI_two hm) ?_
        try dsimp only
        tm_at "s"
        refine s_dgS (.inr ⟨od, j2⟩) hv ?_
        try dsimp only
        tm_at "s"
        refine s_mulI (mulL (by unfold spd; split <;> omega)) ?_
        try dsimp only
        tm_at "s"
        exact ⟨_, rfl, j2, jk⟩
      · rw [decide_eq_false z, if_neg z]
        refine iteF ?_
        try dsimp only
        tm_at "s"
        exact ⟨_, by rw [Int.add_zero]; rfl, j2, jk⟩
    · rintro _ H2 ⟨v4, rfl, j2, jk⟩
      rw [List.length_map, List.take_length, offL_two]
      try dsimp only
      tm_at "s"
      refine ⟨j2, ?_⟩
      tm_at "s"
      refine k _ fun c o' h => ?_
      by_cases hc : c = d
      · subst hc; rw [upd_same, ← hd]; exact h
      · rw [upd_ne hc]; exact jk _ _ hc h
theorem ok_comT {f : Addr} {fd : FuncData} (F : Fun K "_law_common" "_law_common" s__law_common f fd) (b_int : mg "int" = none) :
    FnG P w K mg base CX0 1 f fd ["_law_plan"] spComT := by
  refine funG F sc__law_common (fun vs H Q E h => ?_) (fun cd A' fr s H vs Q E hr hg h => ?_)
  · obtain ⟨p, sa, sb, tk, a, b, f, rfl, _⟩ := h; rfl
  · obtain ⟨p, sa, sb, tk, a, b, f, rfl, pl, hc, k⟩ := h
    refine ⟨_, (pss_cons (ps_set (i := 1) sc__law_common.nd rfl (Or.inl rfl) pe_int)
      (pss_cons (ps_lock (ps_for (passes_of rfl) rfl (pi_keys (pe_dget (hu_of hr) (pv 0) pe_str (fun _ _ => rfl))) (pg_name (i := 2) sc__law_common.nd rfl (Or.inl rfl)) (pss_cons (ps_set (i := 3) sc__law_common.nd rfl (Or.inl rfl) (pv 1))
      (pss_cons (ps_while (passes_of rfl) (pt_cmpR (KX.neU (K := K) rfl hr.units) (pe_op op_mod (pe_callTy (KX.callInt (K := K)) (by rfl) b_int (by decide +kernel) (pa_cons (pv 3) pa_nil)) (pe_dget (hu_of hr) (pe_dget (hu_of hr) (pv 0) pe_str (fun _ _ => rfl)) (pv 2) (fun _ _ => rfl))) pe_int (nomark _)) (pss_one (ps_set (i := 3) sc__law_common.nd rfl (Or.inl rfl) (pe_op opAdd (pv 3) (pv 1)))))
      (pss_one (ps_set (i := 1) sc__law_common.nd rfl (Or.inl rfl) (pv 3)))))))
      (pss_one (ps_ret (pv 1))))), ?_⟩
    tm_at "s"
    obtain ⟨ds, hp, hds⟩ := id pl
    have dp : ds ≠ p := plan_ne hp hds
    obtain ⟨s1, s2, s3, s4, _, _⟩ := hc.small
    refine s_lockS hds fun od => ?_
    refine s_forK ?_
    tm_at "s"
    have hp1 : (upd H ds (.frz od (.dK ((pairW sa sb).map wI)))) p = some (.dK (plF ds a b f)) := by rw [upd_ne (Ne.symm dp)]; exact hp
    refine s_dgS (.inl hp1) rfl ?_
    refine ⟨ds, od, rfl, .inl ⟨_, upd_same, ?_⟩⟩
    refine forKd (fun i σ H' => ∃ (v2 v3 : Option V) (g : Nat), σ = [some (.ref p), some (.int (g : Int)), v2, v3] ∧ g = ([1, sa, tk] : List Nat).getD i 0 ∧ H' ds = some (.frz od (.dK ((pairW sa sb).map wI))) ∧ ∀ c o', c ≠ ds → H c = some o' → H' c = some o') ⟨_, _, 1, rfl, rfl, upd_same, fun c o' hc h => by rw [upd_ne hc]; exact h⟩ (fun i σ H' ⟨_, _, _, _, _, h, _⟩ => h) ?_ ?_
    · rintro i kk v _ H2 hkv ⟨v2, v3, g, rfl, hg, j2, jk⟩
      obtain ⟨n, sp, rfl, rfl, hv, h1, hsp1, hnext⟩ : ∃ (n : Str) (sp : Nat), kk = Sum.inr n ∧ v = .int (sp : Int) ∧ valV ((pairW sa sb).map wI) (Sum.inr n) = some (.int (sp : Int)) ∧ 1 ≤ g ∧ 1 ≤ sp ∧ Nat.lcm g sp = ([1, sa, tk] : List Nat).getD (i + 1) 0 := by
        match i, hkv with
        | 0, hkv =>
          cases hkv
          have hg : g = 1 := hg
          exact ⟨"a", sa, rfl, rfl, rfl, by omega, s1, by rw [hg]; show Nat.lcm 1 sa = sa; exact Nat.lcm_one_left sa⟩
        | 1, hkv =>
          cases hkv
          have hg : g = sa := hg
          exact ⟨"b", sb, rfl, rfl, rfl, by omega, s3, by rw [hg]; exact hc.lcm⟩
      refine s_gNm ?_
      try dsimp only
      tm_at "s"
      refine ⟨fun mm σ H' => ∃ j, 1 ≤ j ∧ j * g ≤ Nat.lcm g sp ∧ mm = Nat.lcm g sp - j * g ∧ σ = [some (.ref p), some (.int (g : Int)), some (.str n), some (.int ((j * g : Nat) : Int))] ∧ H' = H2, ⟨_, 1, Nat.le_refl 1, by rw [Nat.one_mul]; exact Nat.le_of_dvd (Nat.lcm_pos h1 hsp1) (Nat.dvd_lcm_left _ _), rfl, by rw [Nat.one_mul]; rfl, rfl⟩, ?_⟩
      rintro mm _ H3 ⟨j, hj1, hj, rfl, rfl, hH⟩
      subst hH
      tm_at "s"
      refine s_dgS (.inl (jk _ _ (Ne.symm dp) hp)) rfl ?_
      try dsimp only
      tm_at "s"
      refine s_dgS (.inr ⟨od, j2⟩) hv ?_
      refine ⟨_, _, rfl, rfl, by omega, ?_⟩
      tm_at "s"
      rw [show (((j * g : Nat) : Int) % ((sp : Nat) : Int)) = (((j * g) % sp : Nat) : Int) from (Int.natCast_emod _ _).symm]
      refine iteND (fun hz => ?_) (fun hz => ?_)
      · have hz' : ¬ (j * g) % sp = 0 := by omega
        have hmore := lcm_moreT h1 hj hz'
        have hexp : (j + 1) * g = j * g + g := by rw [Nat.add_mul, Nat.one_mul]
        refine ⟨fun σ' H' => σ' = [some (.ref p), some (.int (g : Int)), some (.str n), some (.int (((j + 1) * g : Nat) : Int))] ∧ H' = H3, ?_, ?_⟩
        · rintro _ _ ⟨rfl, rfl⟩
          exact ⟨_, by omega, j + 1, by omega, hmore, rfl, rfl, rfl⟩
        · tm_at "s"
          refine ⟨?_, rfl⟩
          rw [hexp, Int.natCast_add]; rfl
      · have hdone := lcm_doneT h1 hj1 hj (show (j * g) % sp = 0 by omega)
        rw [hdone, hnext]
        try dsimp only
        tm_at "s"
        exact ⟨_, _, _, rfl, rfl, j2, jk⟩
    · rintro _ H2 ⟨v2, v3, g, rfl, hg, j2, jk⟩
      have hg : g = tk := hg
      subst hg
      try dsimp only
      tm_at "s"
      refine ⟨j2, ?_⟩
      tm_at "s"
      refine k _ fun c o' h => ?_
      by_cases hc : c = ds
      · subst hc; rw [upd_same, ← hds]; exact h
      · rw [upd_ne hc]; exact jk _ _ hc h
end
end K30
end
section
namespace L3
open PySem PySem.NumText PySem.Spec PyProof.Rows L2 LamX RZ
def ord2 (aF : Bool) : List Str := match aF with | true => ["a", "b"] | false => ["b", "a"]
theorem put_a (o : Bool) (x y z : Int) : putK ((two o x y).map wI) (Sum.inr "a") (.int z) = (two o z y).map wI := by cases o <;> rfl
theorem put_b (o : Bool) (x y z : Int) : putK ((two o x y).map wI) (Sum.inr "b") (.int z) = (two o x z).map wI := by cases o <;> rfl
theorem val_a (o : Bool) (x y : Int) : valV ((two o x y).map wI) (Sum.inr "a") = some (.int x) := by cases o <;> rfl
theorem val_b (o : Bool) (x y : Int) : valV ((two o x y).map wI) (Sum.inr "b") = some (.int y) := by cases o <;> rfl
/-- who takes: a? -/
def whoA (aF : Bool) (fa fb : Nat) : Bool := match Nat.beq fa fb with | true => aF | false => Nat.ble fa fb
def nmOf (b : Bool) : Str := match b with | true => "a" | false => "b"
theorem who_first (aF : Bool) (fa fb : Nat) : ((ord2 aF).filter fun (n : Str) => decide ((if n = "a" then fa else fb) = min fa fb)).head? = some (nmOf (whoA aF fa fb)) := by
  have ha : (("b" : Str) = "a") = False := eq_false (by decide)
  unfold whoA
  cases aF <;> unfold ord2 <;> simp only [List.filter_cons, List.filter_nil, if_true, ha, if_false]
  · by_cases h : fa = fb
    · subst h
      rw [show Nat.beq fa fa = true from Nat.beq_refl fa]
      simp [nmOf]
    · rw [show Nat.beq fa fb = false from by cases hb : Nat.beq fa fb with | false => rfl | true => exact absurd (Nat.eq_of_beq_eq_true hb) h]
      cases hl : Nat.ble fa fb with
      | true =>
        have hl := Nat.le_of_ble_eq_true hl
        have h1 : ¬ fb = min fa fb := by omega
        have h2 : fa = min fa fb := by omega
        simp [← h2, nmOf, h, show ¬ fb = fa from fun z => h z.symm]
      | false =>
        have hl : ¬ fa ≤ fb := fun z => by rw [Nat.ble_eq_true_of_le z] at hl; cases hl
        have h1 : fb = min fa fb := by omega
        simp [← h1, nmOf]
  · by_cases h : fa = fb
    · subst h
      rw [show Nat.beq fa fa = true from Nat.beq_refl fa]
      simp [nmOf]
    · rw [show Nat.beq fa fb = false from by cases hb : Nat.beq fa fb with | false => rfl | true => exact absurd (Nat.eq_of_beq_eq_true hb) h]
      cases hl : Nat.ble fa fb with
      | true =>
        have hl := Nat.le_of_ble_eq_true hl
        have h2 : fa = min fa fb := by omega
        simp [← h2, nmOf]
      | false =>
        have hl : ¬ fa ≤ fb := fun z => by rw [Nat.ble_eq_true_of_le z] at hl; cases hl
        have h1 : ¬ fa = min fa fb := by omega
        have h2 : fb = min fa fb := by omega
        simp [← h2, nmOf, h, show ¬ fb = fa from fun z => h z.symm]
theorem who_min {aF : Bool} {fa fb : Nat} : (whoA aF fa fb = true → min fa fb = fa) ∧ (whoA aF fa fb = false → min fa fb = fb) := by
  unfold whoA
  cases hb : Nat.beq fa fb with
  | true =>
    have := Nat.eq_of_beq_eq_true hb
    subst this
    exact ⟨fun _ => Nat.min_self _, fun _ => Nat.min_self _⟩
  | false =>
    constructor
    · intro h
      have := Nat.le_of_ble_eq_true h
      omega
    · intro h
      have : ¬ fa ≤ fb := fun z => by rw [Nat.ble_eq_true_of_le z] at h; cases h
      omega
theorem maxE_step (ft ka kb : Nat) (aF : Bool) (c : Nat) (r : List Nat) (fa fb m : Nat) : maxE ft ka kb aF (c :: r) fa fb m = match whoA aF fa fb with
    | true => maxE ft ka kb aF r (fa + ft + c * ka) fb (max m (fa + ft + c * ka))
    | false => maxE ft ka kb aF r fa (fb + ft + c * kb) (max m (fb + ft + c * kb)) := by
  have hm : ∀ e : Nat, (match Nat.ble e m with | true => m | false => e) = max m e := fun e => by
    cases h : Nat.ble e m with
    | true => have := Nat.le_of_ble_eq_true h; show m = _; omega
    | false => have : ¬ e ≤ m := fun z => by rw [Nat.ble_eq_true_of_le z] at h; cases h
               show e = _; omega
  show (match whoA aF fa fb with | true => _ | false => _) = _
  cases whoA aF fa fb with
  | true => show maxE ft ka kb aF r _ _ (match Nat.ble _ m with | true => m | false => _) = _; rw [hm]
  | false => show maxE ft ka kb aF r _ _ (match Nat.ble _ m with | true => m | false => _) = _; rw [hm]
def spPlayT : Sp := fun vs H Q _ => ∃ p d lc lo sa sb tk a b fee o ra rb cs aF, vs = [.ref p, .ref d, .ref lc, .ref lo] ∧ Plan H p (pairW sa sb) a b ((fee : Nat) : Int) ∧ Crew2 sa sb tk ∧ H d = some (.dK ((two o ((ra : Nat) : Int) ((rb : Nat) : Int)).map wI)) ∧
  H lc = some (.lst ((cs.map Int.ofNat).map V.int)) ∧ cs ≠ [] ∧ cs.length ≤ 10 ∧ (∀ c ∈ cs, c ≤ 1000) ∧ fee ≤ 1000 ∧ H lo = some (.lst ((ord2 aF).map V.str)) ∧ ∀ H', Ex H H' → Q (.int ((maxE (fee * tk) (tk / sa) (tk / sb) aF cs ra rb 0 : Nat) : Int)) H'
section
variable {K : PySem.W.Frag} {σ : L2.St} {H : Hp} {Q : VK}
/-- names of a list that pass -/
theorem lcNF {J : It} {ns : List Str} {G : Hp → Prop} (wk : Walk J ns.length G (YAt (ns.map V.str))) (hG : ∀ H1, Ex H H1 → G H1) {tt : TT} {te : TE} {j : Nat} {vs : List Nat} (b : Str → Bool) (hz : ns.length < sizeLine) (hw : ∀ x, wipe ((wipe σ vs).set j (some x)) vs = wipe σ vs) (ht : ∀ (n : Str) (H1 : Hp) (R : Bool → Hp → Prop), n ∈ ns → Ex H H1 → R (b n) H1 → tt ((wipe σ vs).set j (some (.str n))) H1 R) (he : ∀ (n : Str) (H1 : Hp) (R : VK), n ∈ ns → R (.str n) H1 → te ((wipe σ vs).set j (some (.str n))) H1 R)
    (k : ∀ D H2, H D = none → Ex H H2 → H2 D = some (.lst ((ns.filter b).map V.str)) → Q (.ref D) H2) : LC J (gName j) tt te vs σ H Q := by
  intro D hD
  refine lc_it wk (fun i H1 => Ex H H1 ∧ H1 D = some (.lst (((ns.take i).filter b).map V.str))) ⟨ex_new hD, upd_same⟩ (fun _ H1 _ z => hG H1 z.1) ?_ ?_
  · rintro i x H1 H2 hi ⟨e, h⟩ ⟨rfl, hx⟩
    obtain ⟨s, hs, rfl⟩ : ∃ s, ns[i]? = some s ∧ x = V.str s := by
      rw [List.getElem?_map] at hx
      cases h : ns[i]? with
      | none => rw [h] at hx; cases hx
      | some s => rw [h] at hx; exact ⟨s, rfl, (Option.some.inj hx).symm⟩
    have hm := List.mem_of_getElem? hs
    refine ⟨hw _, ht s _ _ hm e ?_⟩
    have htk : ns.take (i + 1) = ns.take i ++ [s] := take_snoc hs
    cases hb : b s with
    | true =>
      refine iteT (he s _ _ hm ⟨_, h, ?_, fun c o hc => ?_, ?_⟩)
      · rw [List.length_map]
        exact Nat.lt_of_le_of_lt (Nat.le_trans (List.length_filter_le _ _) (by rw [List.length_take]; omega)) hz
      · rw [upd_ne (ne_of_none hc hD)]; exact e _ _ hc
      · rw [upd_same, htk, List.filter_append, List.map_append]
        simp [hb]
    | false =>
      refine iteF ⟨e, ?_⟩
      rw [htk, List.filter_append]
      simpa [hb] using h
  · rintro H1 ⟨e, h⟩
    rw [List.take_length] at h
    exact k D H1 hD e h
end
theorem max_is {es : List Nat} {m : Int} (hm : m ∈ es.map Int.ofNat) (hle : ∀ x ∈ es.map Int.ofNat, x ≤ m) : m = ((es.foldl max 0 : Nat) : Int) := by
  have hf : ∀ (l : List Nat) (a : Nat), (a ≤ l.foldl max a) ∧ (∀ x ∈ l, x ≤ l.foldl max a) ∧ (l.foldl max a = a ∨ l.foldl max a ∈ l) := fun l => by
    induction l with
    | nil => exact fun a => ⟨Nat.le_refl a, (fun _ h => nomatch h), .inl rfl⟩
    | cons b r ih =>
      intro a
      obtain ⟨h1, h2, h3⟩ := ih (max a b)
      rw [List.foldl_cons]
      refine ⟨by omega, fun x hx => ?_, ?_⟩
      · rcases List.mem_cons.mp hx with rfl | hx
        · omega
        · exact h2 x hx
      · rcases h3 with h3 | h3
        · rcases Nat.le_total a b with z | z
          · exact .inr (by rw [h3, Nat.max_eq_right z]; exact List.mem_cons_self ..)
          · exact .inl (by rw [h3, Nat.max_eq_left z])
        · exact .inr (List.mem_cons_of_mem _ h3)
  obtain ⟨x, hx, rfl⟩ := List.mem_map.mp hm
  obtain ⟨_, h2, h3⟩ := hf es 0
  have hx2 := h2 x hx
  have : es.foldl max 0 ≤ x := by
    rcases h3 with h3 | h3
    · omega
    · have := hle _ (List.mem_map_of_mem (f := Int.ofNat) h3)
      exact Int.ofNat_le.mp this
  show (x : Int) = _
  omega
end L3
end
section
set_option exponentiation.threshold 9000
local macro_rules | `(tactic| tm_at "s1") => `(tactic| first
  | with_reducible first
    | refine L3.s_seq ?_ | refine L3.s_asg ?_ | refine L3.s_op ?_ | refine L3.s_c ?_ | refine L3.s_cb ?_ | refine L3.s_cons ?_ | refine L3.s_nil ?_ | refine L3.s_test ?_ | refine L3.s_bl ?_
    | refine L3.s_I0 ?_ | refine L3.s_and ?_ | refine L3.s_or ?_ | refine L3.s_not ?_ | refine L3.s_if ?_ | refine L3.s_next ?_ | refine L3.s_ret ?_ | refine L3.s_retN ?_ | refine L3.s_asgS ?_ | refine L3.s_drop ?_
    | refine L3.s_un ?_ | refine L3.s_U ?_ | refine L3.s_int ?_ | refine L3.s_intB ?_ | refine L3.s_abs ?_ | refine L3.s_andV ?_ | refine L3.s_orV ?_ | refine L3.s_notV ?_ | refine L3.s_ifE ?_ | refine L3.s_call ?_ | refine L3.s_lst ?_ | refine L3.s_tup ?_ | refine L3.s_tB ?_
    | refine L3.s_addI ?_ | refine L3.s_inS ?_ | refine L3.s_ninS ?_ | refine L3.s_slice ?_ | refine L3.s_part ?_ | refine L3.s_partI ?_ | refine L3.s_nopart ?_ | refine L3.s_cI ?_ | refine L3.s_cB ?_ | refine L3.s_chain ?_ | refine L3.s_bm ?_ | refine L3.s_lcS ?_ | refine L3.s_lcR ?_ | refine L3.s_strE ?_
    | refine L2.iteT ?_ | refine L2.iteF ?_ | refine L3.iteNF ?_ | refine L3.iteNT ?_
    | refine L3.s_eqI ?_ | refine L3.s_neI ?_ | refine L3.s_eqS ?_ | refine L3.s_neS ?_
    | refine L3.s_pair ?_ | refine L3.s_pair2 ?_ | refine L3.s_fld ?_ | refine L3.s_make ?_ | refine L3.s_m1 ?_ | refine L3.s_isstr ?_
    | refine L3.s_xfV ?_ | refine L3.s_lstN ?_ | refine L3.s_callF ?_ | refine L3.s_lcL ?_ | refine L3.s_par3 ?_ | refine L3.s_trip ?_ | refine L3.s_asgT' ?_ | refine L3.s_gC ?_ | refine L3.s_gN ?_ | refine L3.s_fldG ?_ | refine L3.s_raise1 ?_ | refine L3.s_raise2 ?_ | refine L3.s_star ?_ | refine L3.s_mkCR ?_ | refine L3.s_lcZ ?_ | refine L3.s_forL ?_ | refine L3.s_forT ?_ | refine L3.s_gNm ?_ | refine L3.s_forE ?_ | refine L3.s_stC ?_ | refine L3.s_cmC ?_ | refine L3.s_forR1 ?_ | refine L3.s_lcTp ?_ | refine L3.s_forZ ?_ | refine L3.s_orT ?_ | refine L3.s_mt ?_ | refine L3.s_revT ?_ | refine L3.s_revL ?_ | refine L3.s_slOwn ?_ | refine L3.s_sl3 ?_ | refine L3.s_lcO ?_ | refine L3.s_stR ?_
    | refine L3.s_dcL ?_ | refine L3.s_dcT ?_ | refine L3.s_dget ?_ | refine L3.s_forET ?_ | refine L3.s_din ?_ | refine L3.s_dnin ?_ | refine L3.s_mkKV ?_
    | refine L3.s_isN ?_ | refine L3.s_isB ?_ | refine L3.s_nisN ?_ | refine L3.s_nisB ?_
  | ((with_reducible refine' L3.s_var ?e ?_); (case e => rfl))
  | ((with_reducible refine' L3.s_aug ?e ?_); (case e => rfl))
  | ((with_reducible refine' L3.s_pow ?c ?_); (case c => exact ⟨by decide, by decide, by decide⟩)))
local macro_rules | `(tactic| tm_at "s") => `(tactic| repeat tm_at "s1")
namespace K30
open PySem PySem.NumText PySem.Spec PyProof.Rows L2 L3 LamX RZ ClX
abbrev s__law_played : Stmt := topS 86
abbrev names__law_played : List Str := ["_law_plan", "_law_ready", "_law_costs", "_law_order", "_law_tick", "_law_free", "_law_ends", "_law_cost", "_law_soon", "_law_name", "_law_lasts", "_law_one", "_law_end"]
theorem sc__law_played : FnScope ["_law_plan", "_law_ready", "_law_costs", "_law_order", "_law_tick", "_law_free", "_law_ends", "_law_cost", "_law_soon", "_law_name", "_law_lasts", "_law_one", "_law_end"] ["_law_plan", "_law_ready", "_law_costs", "_law_order"] (defScope s__law_played) := ⟨rfl, rfl, rfl, by decide +kernel, rfl, by decide +kernel, by decide +kernel⟩
section
variable {P : Program} {w : World} {K : PySem.W.Frag} {mg : Str → Option Value} {base : Heap}
theorem ok_playT {f : Addr} {fd : FuncData} (F : Fun K "_law_played" "_law_played" s__law_played f fd) (b_int : mg "int" = none) (b_dict : mg "dict" = none) (b_min : mg "min" = none) (b_max : mg "max" = none) (c__law_common : Fn P w K mg base CX0 1 "_law_common" ["_law_plan"] spComT) :
    FnG P w K mg base CX0 2 f fd ["_law_plan", "_law_ready", "_law_costs", "_law_order"] spPlayT := by
  refine funG F sc__law_played (fun vs H Q E h => ?_) (fun cd A' fr s H vs Q E hr hg h => ?_)
  · obtain ⟨p, d, lc, lo, sa, sb, tk, a, b, fee, o, ra, rb, cs, aF, rfl, _⟩ := h; rfl
  · obtain ⟨p, d, lc, lo, sa, sb, tk, a, b, fee, o, ra, rb, cs, aF, rfl, pl, hc, hd, hlc, hne, hl10, hc1, hf1, hlo, k⟩ := h
    refine ⟨_, (pss_cons (ps_asg (pe_tup (pa_cons (pe_f c__law_common hr hg pass0 (pa_cons (pv 0) pa_nil)) (pa_cons (pe_callTy call_dictD (by rfl) b_dict (by decide +kernel) (pa_cons (pv 1) pa_nil)) (pa_cons (pe_lst pa_nil) pa_nil)))) (KX.tup (K := K) rfl rfl (pgs_cons (pg_name (i := 4) sc__law_played.nd rfl (Or.inl rfl)) (pgs_cons (pg_name (i := 5) sc__law_played.nd rfl (Or.inr rfl)) (pgs_cons (pg_name (i := 6) sc__law_played.nd rfl (Or.inl rfl)) pgs_nil)))))
      (pss_cons (ps_for (passes_of rfl) rfl (pi_list (pv 2)) (pg_name (i := 7) sc__law_played.nd rfl (Or.inl rfl)) (pss_cons (ps_set (i := 8) sc__law_played.nd rfl (Or.inr rfl) (pe_callB (cr_min (by rfl)) (by rfl) b_min (by decide +kernel) (pa_cons (pe_lock (pe_lc (own := [("_law_name", 9)]) (g := gName 9) (tt := tYes) (by rfl) sc__law_played.nd (pi_keys (pv 5)) (blkOk_by (own := [("_law_name", 9)]) (N := names__law_played) (sc := defScope s__law_played) (by decide +kernel)) (fun _ _ _ _ _ => pg_name (i := 9) sc__law_played.nd rfl (Or.inl rfl)) (fun _ _ _ _ _ => pts_nil) (fun _ _ _ _ _ => (pe_callTy (KX.callInt (K := K)) (by rfl) b_int (by decide +kernel) (pa_cons (pe_dget (hu_of hr) (pv 5) (pv 9) (fun _ _ => rfl)) pa_nil))))) pa_nil)))
      (pss_cons (ps_set (i := 9) sc__law_played.nd rfl (Or.inl rfl) (pe_ix (KX.ixU (K := K)) (pe_lc (own := [("_law_one", 11)]) (g := gName 11) (by rfl) sc__law_played.nd (pi_list (pv 3)) (blkOk_by (own := [("_law_one", 11)]) (N := names__law_played) (sc := defScope s__law_played) (by decide +kernel)) (fun _ _ _ _ _ => pg_name (i := 11) sc__law_played.nd rfl (Or.inl rfl)) (fun _ _ _ _ _ => pts_one (PW.pt (pw_and (pt_cmp (pc_din (hu_of hr) (pv 11) (pv 5))) (pw_and1 (pt_cmpR (KX.eqU (K := K) rfl hr.units) (pe_dget (hu_of hr) (pv 5) (pv 11) (fun _ _ => rfl)) (pv 8) (nomark _)))))) (fun _ _ _ _ _ => (pv 11))) pe_int (fun _ _ => rfl)))
      (pss_cons (ps_set (i := 10) sc__law_played.nd rfl (Or.inl rfl) (pe_op opMul (pv 7) (pe_op op_fdivW (pv 4) (pe_dget (hu_of hr) (pe_dget (hu_of hr) (pv 0) pe_str (fun _ _ => rfl)) (pv 9) (fun _ _ => rfl)))))
      (pss_cons (ps_asg (pe_op opAdd (pe_op opAdd (pv 8) (pe_op opMul (pe_dget (hu_of hr) (pv 0) pe_str (fun _ _ => rfl)) (pv 4))) (pv 10)) (pg_sub (pv 5) (pv 9) (set_dict (hu_of hr))))
      (pss_one (ps_expr (pe_bm PySem.F.plainAttrs_list PySem.F.slot_list_append PySem.F.type_list_append mt_append (pv 6) (pa_cons (pe_dget (hu_of hr) (pv 5) (pv 9) (fun _ _ => rfl)) pa_nil)))))))))
      (pss_one (ps_ret (pe_callB (cr_max (by rfl)) (by rfl) b_max (by decide +kernel) (pa_cons (pe_lc (own := [("_law_end", 12)]) (g := gName 12) (tt := tYes) (by rfl) sc__law_played.nd (pi_list (pv 6)) (blkOk_by (own := [("_law_end", 12)]) (N := names__law_played) (sc := defScope s__law_played) (by decide +kernel)) (fun _ _ _ _ _ => pg_name (i := 12) sc__law_played.nd rfl (Or.inl rfl)) (fun _ _ _ _ _ => pts_nil) (fun _ _ _ _ _ => (pe_callTy (KX.callInt (K := K)) (by rfl) b_int (by decide +kernel) (pa_cons (pv 12) pa_nil)))) pa_nil)))))), ?_⟩
    obtain ⟨s1, s2, s3, s4, t1, t3⟩ := hc.small
    tm_at "s"
    refine ⟨p, sa, sb, tk, a, b, _, rfl, pl, hc, fun H1 e1 => ?_⟩
    try dsimp only
    tm_at "s"
    refine ⟨d, _, rfl, .inl (e1 _ _ hd), fun fr0 nfr => ?_⟩
    have hfr : (upd H1 fr0 (.dK ((two o (ra : Int) (rb : Int)).map wI))) fr0 = some (.dK ((two o (ra : Int) (rb : Int)).map wI)) := upd_same
    have e2 : Ex H1 (upd H1 fr0 (.dK ((two o (ra : Int) (rb : Int)).map wI))) := ex_new nfr
    generalize upd H1 fr0 (.dK ((two o (ra : Int) (rb : Int)).map wI)) = H2 at e2 hfr
    try dsimp only
    tm_at "s"
    refine s_new (Nat.le_of_lt (small1000 (by simp))) fun le H3 nle e3 hle => ?_
    try dsimp only
    tm_at "s"
    refine s_new (Nat.le_of_lt (small1000 (by simp))) fun tt H4 ntt e4 htt => ?_
    refine s_gT (xs := [.int (tk : Int), .ref fr0, .ref le]) htt rfl ?_
    try dsimp only
    tm_at "s"
    have hfrN : H fr0 = none := e1.free nfr
    have hleN : H le = none := (e1.trans e2).free nle
    have kk4 : ∀ c o', H c = some o' → H4 c = some o' := fun c o' h => e4 _ _ (e3 _ _ (e2 _ _ (e1 _ _ h)))
    have hfr4 : H4 fr0 = _ := e4 _ _ (e3 _ _ hfr)
    have hle4 : H4 le = _ := e4 _ _ hle
    clear hfr hle htt e4 e3 e2 e1 nfr nle ntt
    obtain ⟨ds, hp, hds⟩ := id pl
    refine s_fL (kk4 _ _ hlc) (fun i σ H' => ∃ (v7 v8 v9 v10 : Option V) (fa fb : Nat) (es : List Nat), σ = [some (.ref p), some (.ref d), some (.ref lc), some (.ref lo), some (.int (tk : Int)), some (.ref fr0), some (.ref le), v7, v8, v9, v10, none, none] ∧ H' fr0 = some (.dK ((two o (fa : Int) (fb : Int)).map wI)) ∧ H' le = some (.lst ((es.map Int.ofNat).map V.int)) ∧ es.length = i ∧ maxE (fee * tk) (tk / sa) (tk / sb) aF cs ra rb 0 = maxE (fee * tk) (tk / sa) (tk / sb) aF (cs.drop i) fa fb (es.foldl max 0) ∧ ∀ c o', H c = some o' → H' c = some o') ⟨_, _, _, _, ra, rb, [], rfl, hfr4, hle4, rfl, rfl, kk4⟩ (fun i σ H' ⟨_, _, _, _, _, _, _, _, _, _, _, _, h⟩ => h _ _ hlc) ?_ ?_
    · rintro i x _ H5 hx ⟨v7, v8, v9, v10, fa, fb, es, rfl, hfr, hle, hel, hmx, kk⟩
      rw [List.getElem?_map, List.getElem?_map] at hx
      obtain ⟨c, hcs, rfl⟩ : ∃ c, cs[i]? = some c ∧ x = V.int (c : Int) := by
        cases h : cs[i]? with
        | none => rw [h] at hx; cases hx
        | some c => rw [h] at hx; exact ⟨c, rfl, (Option.some.inj hx).symm⟩
      have hcm := hc1 c (List.mem_of_getElem? hcs)
      refine s_gNm ?_
      try dsimp only
      tm_at "s"
      refine s_lcK (fun _ _ => true) (fun _ v => v) hfr (by rw [List.length_map, two_len]; exact sz100k (by omega)) (fun _ => rfl) (fun od R h => ?_) (fun kk v H1 R hkv hl e r => r) (fun kk v H1 R hkv hb hl e r => ?_) fun D H6 nD e6 h6 => ?_
      · tm_at "s"
        exact h
      · obtain ⟨q, hq, e'⟩ := List.mem_map.mp hkv
        cases e'
        obtain ⟨od, hod⟩ := hl
        tm_at "s"
        refine s_dgS (.inr ⟨od, hod⟩) (valV_mem (two_nd o _ _) hq) ?_
        try dsimp only
        tm_at "s"
        exact r H1 (Ex.refl H1)
      have h6' : H6 D = some (.lst (((two o (fa : Int) (fb : Int)).map (·.2)).map V.int)) := by
        rw [h6, filt_trueC, List.map_map, List.map_map]; rfl
      try dsimp only
      tm_at "s"
      refine ⟨D, (two o (fa : Int) (fb : Int)).map (·.2), rfl, .inl (.inl h6'), by rw [List.length_map, two_len]; omega, fun m hm hmle => ?_⟩
      obtain rfl : m = ((min fa fb : Nat) : Int) := by
        have h1 : m = (fa : Int) ∨ m = (fb : Int) := by cases o <;> simp [two] at hm <;> omega
        have h2 : m ≤ (fa : Int) ∧ m ≤ (fb : Int) := by cases o <;> simp [two] at hmle <;> omega
        omega
      try dsimp only
      tm_at "s"
      have ordm : ∀ n ∈ ord2 aF, n = "a" ∨ n = "b" := fun n hn => by
        cases aF
        · have : n = "b" ∨ n = "a" := by simpa [ord2] using hn
          exact this.symm
        · simpa [ord2] using hn
      have hfr6 : H6 fr0 = _ := e6 _ _ hfr
      have hlo6 : H6 lo = _ := e6 _ _ (kk _ _ hlo)
      have hvn : ∀ n : Str, n = "a" ∨ n = "b" → valV ((two o (fa : Int) (fb : Int)).map wI) (Sum.inr n) = some (.int (((if n = "a" then fa else fb : Nat)) : Int)) := fun n hn => by
        rcases hn with rfl | rfl
        · exact val_a o _ _
        · exact val_b o _ _
      refine ⟨lo, rfl, ⟨_, .inl (.inl hlo6)⟩, lcNF (walkLN (K := K)) (fun H1 e => .inl (.inl (e _ _ hlo6))) (fun (n : Str) => decide ((if n = "a" then fa else fb) = min fa fb)) (by cases aF <;> exact sz100k (by decide)) (fun _ => rfl) (fun n H1 R hn e r => ?_) (fun n H1 R _ r => by tm_at "s"; exact r) fun D7 H7 nD7 e7 h7 => ?_⟩
      · tm_at "s"
        refine s_diS (.inl (e _ _ hfr6)) ?_
        rw [hvn n (ordm n hn)]
        refine ⟨_, rfl, ?_⟩
        refine iteT ?_
        try dsimp only
        tm_at "s"
        refine s_dgS (.inl (e _ _ hfr6)) (hvn n (ordm n hn)) ?_
        try dsimp only
        tm_at "s"
        rw [show decide ((((if n = "a" then fa else fb : Nat)) : Int) = ((min fa fb : Nat) : Int)) = decide ((if n = "a" then fa else fb) = min fa fb) from decide_eq_decide.mpr Int.ofNat_inj]
        exact r
      have hfst := who_first aF fa fb
      try dsimp only
      tm_at "s"
      refine s_iL (v := .str (nmOf (whoA aF fa fb))) h7 ?_ ?_
      · have : (((ord2 aF).filter fun (n : Str) => decide ((if n = "a" then fa else fb) = min fa fb)).map V.str)[0]? = some (.str (nmOf (whoA aF fa fb))) := by
          rw [List.getElem?_map, ← List.head?_eq_getElem?, hfst]; rfl
        exact L3.atI_nat (j := 0) this
      have hfr7 : H7 fr0 = _ := e7 _ _ hfr6
      have hp7 : H7 p = _ := e7 _ _ (e6 _ _ (kk _ _ hp))
      have hds7 : H7 ds = _ := e7 _ _ (e6 _ _ (kk _ _ hds))
      have kk7 : ∀ c o', H c = some o' → H7 c = some o' := fun c o' h => e7 _ _ (e6 _ _ (kk _ _ h))
      have hle7 : H7 le = _ := e7 _ _ (e6 _ _ hle)
      obtain ⟨sp, sp1, hvs, hsp⟩ : ∃ sp : Nat, 1 ≤ sp ∧ valV ((pairW sa sb).map wI) (Sum.inr (nmOf (whoA aF fa fb))) = some (.int (sp : Int)) ∧ sp = (match whoA aF fa fb with | true => sa | false => sb) := by
        cases whoA aF fa fb
        · exact ⟨sb, s3, rfl, rfl⟩
        · exact ⟨sa, s1, rfl, rfl⟩
      try dsimp only
      tm_at "s"
      refine s_dgS (.inl hp7) rfl ?_
      try dsimp only
      tm_at "s"
      refine s_dgS (.inl hds7) hvs ?_
      try dsimp only
      tm_at "s"
      have sp3 : sp ≤ 3 := by cases hw : whoA aF fa fb <;> rw [hw] at hsp <;> simp only at hsp <;> omega
      refine s_divP (by omega) (by omega) ?_
      rw [show ((tk : Int) / (sp : Int)) = ((tk / sp : Nat) : Int) from rfl]
      refine s_mulI (mulL ⟨by omega, by omega⟩) ?_
      try dsimp only
      tm_at "s"
      refine s_dgS (.inl hp7) rfl ?_
      try dsimp only
      tm_at "s"
      refine s_mulI (mulL ⟨by omega, by omega⟩) ?_
      try dsimp only
      tm_at "s"
      refine s_dput hfr7 (by rw [List.length_map, two_len]; omega) ?_
      try dsimp only
      tm_at "s"
      have hcast : (((min fa fb : Nat) : Int) + (fee : Int) * (tk : Int) + (c : Int) * ((tk / sp : Nat) : Int)) = ((min fa fb + fee * tk + c * (tk / sp) : Nat) : Int) := by simp only [Int.natCast_add, Int.natCast_mul]
      rw [hcast]
      have hdrop : cs.drop i = c :: cs.drop (i + 1) := by
        have hi := (List.getElem?_eq_some_iff.mp hcs)
        rw [List.drop_eq_getElem_cons hi.1, hi.2]
      rw [hdrop, maxE_step] at hmx
      obtain ⟨fa', fb', hput, hvv, hmx'⟩ : ∃ fa' fb' : Nat, putK ((two o (fa : Int) (fb : Int)).map wI) (Sum.inr (nmOf (whoA aF fa fb))) (.int ((min fa fb + fee * tk + c * (tk / sp) : Nat) : Int)) = (two o (fa' : Int) (fb' : Int)).map wI ∧ valV ((two o (fa' : Int) (fb' : Int)).map wI) (Sum.inr (nmOf (whoA aF fa fb))) = some (.int ((min fa fb + fee * tk + c * (tk / sp) : Nat) : Int)) ∧
          maxE (fee * tk) (tk / sa) (tk / sb) aF cs ra rb 0 = maxE (fee * tk) (tk / sa) (tk / sb) aF (cs.drop (i + 1)) fa' fb' (max (es.foldl max 0) (min fa fb + fee * tk + c * (tk / sp))) := by
        have hwm := who_min (aF := aF) (fa := fa) (fb := fb)
        cases hw : whoA aF fa fb with
        | true =>
          rw [hw] at hmx hsp
          have hsp : sp = sa := hsp
          rw [hwm.1 hw, hsp]
          exact ⟨_, fb, put_a o _ _ _, val_a o _ _, hmx⟩
        | false =>
          rw [hw] at hmx hsp
          have hsp : sp = sb := hsp
          rw [hwm.2 hw, hsp]
          exact ⟨fa, _, put_b o _ _ _, val_b o _ _, hmx⟩
      rw [hput]
      have lef : le ≠ fr0 := fun z => by rw [z, hfr7] at hle7; cases hle7
      have hfr8 : (upd H7 fr0 (.dK ((two o (fa' : Int) (fb' : Int)).map wI))) fr0 = some (.dK ((two o (fa' : Int) (fb' : Int)).map wI)) := upd_same
      have hle8 : (upd H7 fr0 (.dK ((two o (fa' : Int) (fb' : Int)).map wI))) le = some (.lst ((es.map Int.ofNat).map V.int)) := by rw [upd_ne lef]; exact hle7
      have kk8 : ∀ c o', H c = some o' → (upd H7 fr0 (.dK ((two o (fa' : Int) (fb' : Int)).map wI))) c = some o' := fun c o' h => by rw [upd_ne (ne_of_none h hfrN)]; exact kk7 _ _ h
      generalize upd H7 fr0 (.dK ((two o (fa' : Int) (fb' : Int)).map wI)) = H8 at hfr8 hle8 kk8 ⊢
      refine ⟨.inl ⟨rfl, _, .inl (.inl hle8)⟩, ?_⟩
      try dsimp only
      tm_at "s"
      refine s_dgS (.inl hfr8) hvv ?_
      try dsimp only
      tm_at "s"
      have hil : i < cs.length := (List.getElem?_eq_some_iff.mp hcs).1
      generalize min fa fb + fee * tk + c * (tk / sp) = eN at hmx' ⊢
      refine s_app hle8 (sz100k (by rw [List.length_map, List.length_map]; omega)) ?_
      refine ⟨_, _, _, _, fa', fb', es ++ [eN], rfl, ?_, ?_, by rw [List.length_append, hel]; rfl, ?_, fun c' o' h => ?_⟩
      · rw [upd_ne (Ne.symm lef)]; exact hfr8
      · rw [upd_same, List.map_append, List.map_append]; rfl
      · rw [hmx', List.foldl_append]; rfl
      · rw [upd_ne (ne_of_none h hleN)]; exact kk8 _ _ h
    · rintro _ H5 ⟨v7, v8, v9, v10, fa, fb, es, rfl, hfr, hle, hel, hmx, kk⟩
      rw [List.length_map, List.length_map] at hel
      rw [List.length_map, List.length_map, List.drop_length] at hmx
      try dsimp only
      tm_at "s"
      have hcl : 0 < cs.length := List.length_pos_iff.mpr hne
      refine ⟨le, rfl, ⟨_, .inl (.inl hle)⟩, lcMap (K := K) (fun v => v) hle (by rw [List.length_map, List.length_map]; exact sz100k (by omega)) (fun _ => rfl) (fun x hx H1 R e r => ?_) fun B1 H6 n6 e6 h6 => ?_⟩
      · obtain ⟨z, hz, rfl⟩ := List.mem_map.mp hx
        tm_at "s"
        exact r H1 (Ex.refl H1)
      rw [List.map_id'] at h6
      try dsimp only
      tm_at "s"
      refine ⟨B1, es.map Int.ofNat, rfl, .inl (.inl h6), by rw [List.length_map]; omega, fun m hm hmle => ?_⟩
      obtain rfl := max_is hm hmle
      rw [hmx] at k
      exact k H6 fun c' o' h => e6 _ _ (kk _ _ h)
end
end K30
end
section
set_option exponentiation.threshold 9000
namespace L3
open PySem PySem.NumText PySem.Spec PyProof.Rows L2 LamX RZ
theorem offI_nat (s r x y : Nat) : offI (s : Int) (r : Int) ((x : Int) - (y : Int)) = ((s * (x - y - r) : Nat) : Int) := by
  unfold offI
  by_cases h : (r : Int) < (x : Int) - (y : Int)
  · rw [if_pos h]
    have h1 : (x : Int) - (y : Int) - (r : Int) = ((x - y - r : Nat) : Int) := by omega
    rw [h1, Int.natCast_mul]
  · rw [if_neg h]
    have h1 : x - y - r = 0 := by omega
    rw [h1, Nat.mul_zero]; rfl
theorem later_is (ft ka kb sa sb lt u need ra rb : Nat) (cs : List Nat) (aF : Bool) :
    decide (((need : Nat) : Int) < offI (sa : Int) ((ra * u : Nat) : Int) (((maxE ft ka kb aF cs ra rb 0 * u : Nat) : Int) - (lt : Int)) + offI (sb : Int) ((rb * u : Nat) : Int) (((maxE ft ka kb aF cs ra rb 0 * u : Nat) : Int) - (lt : Int))) = laterN ft ka kb sa sb lt u need ra rb cs aF := by
  rw [offI_nat, offI_nat]
  unfold laterN
  show _ = !Nat.ble (sa * (maxE ft ka kb aF cs ra rb 0 * u - lt - ra * u) + sb * (maxE ft ka kb aF cs ra rb 0 * u - lt - rb * u)) need
  cases h : Nat.ble (sa * (maxE ft ka kb aF cs ra rb 0 * u - lt - ra * u) + sb * (maxE ft ka kb aF cs ra rb 0 * u - lt - rb * u)) need with
  | true =>
    have := Nat.le_of_ble_eq_true h
    exact decide_eq_false (by omega)
  | false =>
    have : ¬ _ ≤ need := fun z => by rw [Nat.ble_eq_true_of_le z] at h; cases h
    exact decide_eq_true (by omega)
theorem maxE_le (ft ka kb : Nat) (aF : Bool) : ∀ (cs : List Nat) (fa fb m B : Nat), m ≤ B → fa + cs.length * ft + sm cs * (ka + kb) ≤ B → fb + cs.length * ft + sm cs * (ka + kb) ≤ B → maxE ft ka kb aF cs fa fb m ≤ B
  | [], _, _, m, B, h, _, _ => h
  | c :: r, fa, fb, m, B, h, h1, h2 => by
    have e1 : (c :: r).length * ft = r.length * ft + ft := by rw [List.length_cons, Nat.add_mul, Nat.one_mul]
    have e2 : sm (c :: r) * (ka + kb) = c * ka + c * kb + sm r * (ka + kb) := by show (c + sm r) * (ka + kb) = _; rw [Nat.add_mul, Nat.mul_add]
    rw [e1, e2] at h1 h2
    rw [maxE_step]
    cases whoA aF fa fb with
    | true => exact maxE_le ft ka kb aF r _ _ _ B (by omega) (by omega) (by omega)
    | false => exact maxE_le ft ka kb aF r _ _ _ B (by omega) (by omega) (by omega)
theorem sm_le {cs : List Nat} (h : ∀ c ∈ cs, c ≤ 1000) : sm cs ≤ cs.length * 1000 := by
  induction cs with
  | nil => exact Nat.le_refl _
  | cons a r ih =>
    have := ih fun c hc => h c (List.mem_cons_of_mem _ hc)
    have := h a (List.mem_cons_self ..)
    show a + sm r ≤ _
    rw [List.length_cons]
    omega
theorem sm_sum (cs : List Nat) : (cs.map Int.ofNat).sum = ((sm cs : Nat) : Int) := by
  induction cs with
  | nil => rfl
  | cons a r ih => rw [List.map_cons, List.sum_cons, ih]; rfl
def spLatT : Sp := fun vs H Q _ => ∃ p d lc lo sa sb tk a b fee o ra rb cs aF l u, vs = [.ref p, .ref d, .ref lc, .ref lo, .int ((l : Nat) : Int), .int ((u : Nat) : Int)] ∧ Plan H p (pairW sa sb) a b ((fee : Nat) : Int) ∧ Crew2 sa sb tk ∧ H d = some (.dK ((two o ((ra : Nat) : Int) ((rb : Nat) : Int)).map wI)) ∧
  H lc = some (.lst ((cs.map Int.ofNat).map V.int)) ∧ cs ≠ [] ∧ cs.length ≤ 10 ∧ (∀ c ∈ cs, c ≤ 1000) ∧ fee ≤ 1000 ∧ H lo = some (.lst ((ord2 aF).map V.str)) ∧ ra ≤ 100000 ∧ rb ≤ 100000 ∧ l ≤ 10 ^ 60 ∧ u ≤ 10 ^ 60 ∧
  ∀ H', Ex H H' → Q (.bl (laterN (fee * tk) (tk / sa) (tk / sb) sa sb (l * tk) u (sm cs * tk * u) ra rb cs aF)) H'
theorem s_lcKt {σ : L2.St} {H : Hp} {Q : VK} {ta te : TE} {g : TG} {tt : TT} {vs : List Nat} (h : ta σ H fun x H1 => ∃ d o, x = .ref d ∧ ((∃ kvs, H1 d = some (.frz o (.dK kvs)) ∧ LC (Itk d o kvs) g tt te vs σ H1 Q) ∨ ∃ kvs, H1 d = some (.frz o (.dT kvs)) ∧ LC (Itkt d o kvs) g tt te vs σ H1 Q)) : tLc (iKeys ta) g tt te vs σ H Q := h
theorem refsT {K : PySem.W.Frag} {H : Hp} {g : Str × Int → Int} : ∀ {ws : List (Str × Int)} {vs : List V}, vs.length = ws.length → (∀ (i : Nat) (v : V), vs[i]? = some v → ∀ p, ws[i]? = some p → ∃ t, v = V.ref t ∧ H t = some (.tup [.str p.1, .int (g p)])) →
    ∃ ps : List Addr, vs = ps.map V.ref ∧ Paired (fun t (kv : Key × V) => SqT K H t [kV kv.1, kv.2]) ps ((ws.map fun p => (p.1, g p)).map wI)
  | [], [], _, _ => ⟨[], rfl, .nil⟩
  | [], _ :: _, h, _ => by simp at h
  | _ :: _, [], h, _ => by simp at h
  | p :: ws, v :: vs, h, k => by
    obtain ⟨t, rfl, ht⟩ := k 0 v rfl p rfl
    obtain ⟨ps, rfl, pr⟩ := refsT (K := K) (ws := ws) (vs := vs) (by simpa using h) fun i v h1 q h2 => k (i + 1) v (by simpa using h1) q (by simpa using h2)
    exact ⟨t :: ps, rfl, .cons (.inl (.inl ht)) pr⟩
end L3
end
section
set_option exponentiation.threshold 9000
local macro_rules | `(tactic| tm_at "s1") => `(tactic| first
  | with_reducible first
    | refine L3.s_seq ?_ | refine L3.s_asg ?_ | refine L3.s_op ?_ | refine L3.s_c ?_ | refine L3.s_cb ?_ | refine L3.s_cons ?_ | refine L3.s_nil ?_ | refine L3.s_test ?_ | refine L3.s_bl ?_
    | refine L3.s_I0 ?_ | refine L3.s_and ?_ | refine L3.s_or ?_ | refine L3.s_not ?_ | refine L3.s_if ?_ | refine L3.s_next ?_ | refine L3.s_ret ?_ | refine L3.s_retN ?_ | refine L3.s_asgS ?_ | refine L3.s_drop ?_
    | refine L3.s_un ?_ | refine L3.s_U ?_ | refine L3.s_int ?_ | refine L3.s_intB ?_ | refine L3.s_abs ?_ | refine L3.s_andV ?_ | refine L3.s_orV ?_ | refine L3.s_notV ?_ | refine L3.s_ifE ?_ | refine L3.s_call ?_ | refine L3.s_lst ?_ | refine L3.s_tup ?_ | refine L3.s_tB ?_
    | refine L3.s_addI ?_ | refine L3.s_inS ?_ | refine L3.s_ninS ?_ | refine L3.s_slice ?_ | refine L3.s_part ?_ | refine L3.s_partI ?_ | refine L3.s_nopart ?_ | refine L3.s_cI ?_ | refine L3.s_cB ?_ | refine L3.s_chain ?_ | refine L3.s_bm ?_ | refine L3.s_lcS ?_ | refine L3.s_lcR ?_ | refine L3.s_strE ?_
    | refine L2.iteT ?_ | refine L2.iteF ?_ | refine L3.iteNF ?_ | refine L3.iteNT ?_
    | refine L3.s_eqI ?_ | refine L3.s_neI ?_ | refine L3.s_eqS ?_ | refine L3.s_neS ?_
    | refine L3.s_pair ?_ | refine L3.s_pair2 ?_ | refine L3.s_fld ?_ | refine L3.s_make ?_ | refine L3.s_m1 ?_ | refine L3.s_isstr ?_
    | refine L3.s_xfV ?_ | refine L3.s_lstN ?_ | refine L3.s_callF ?_ | refine L3.s_lcL ?_ | refine L3.s_par3 ?_ | refine L3.s_trip ?_ | refine L3.s_asgT' ?_ | refine L3.s_gC ?_ | refine L3.s_gN ?_ | refine L3.s_fldG ?_ | refine L3.s_raise1 ?_ | refine L3.s_raise2 ?_ | refine L3.s_star ?_ | refine L3.s_mkCR ?_ | refine L3.s_lcZ ?_ | refine L3.s_forL ?_ | refine L3.s_forT ?_ | refine L3.s_gNm ?_ | refine L3.s_forE ?_ | refine L3.s_stC ?_ | refine L3.s_cmC ?_ | refine L3.s_forR1 ?_ | refine L3.s_lcTp ?_ | refine L3.s_forZ ?_ | refine L3.s_orT ?_ | refine L3.s_mt ?_ | refine L3.s_revT ?_ | refine L3.s_revL ?_ | refine L3.s_slOwn ?_ | refine L3.s_sl3 ?_ | refine L3.s_lcO ?_ | refine L3.s_stR ?_
    | refine L3.s_dcL ?_ | refine L3.s_dcT ?_ | refine L3.s_dget ?_ | refine L3.s_forET ?_ | refine L3.s_din ?_ | refine L3.s_dnin ?_ | refine L3.s_mkKV ?_
    | refine L3.s_isN ?_ | refine L3.s_isB ?_ | refine L3.s_nisN ?_ | refine L3.s_nisB ?_
  | ((with_reducible refine' L3.s_var ?e ?_); (case e => rfl))
  | ((with_reducible refine' L3.s_aug ?e ?_); (case e => rfl))
  | ((with_reducible refine' L3.s_pow ?c ?_); (case c => exact ⟨by decide, by decide, by decide⟩)))
local macro_rules | `(tactic| tm_at "s") => `(tactic| repeat tm_at "s1")
namespace K30
open PySem PySem.NumText PySem.Spec PyProof.Rows L2 L3 LamX RZ ClX
abbrev s__law_is_later : Stmt := topS 88
abbrev names__law_is_later : List Str := ["_law_plan", "_law_ready", "_law_costs", "_law_order", "_law_late_here", "_law_under_here", "_law_tick", "_law_moved", "_law_moment", "_law_name"]
theorem sc__law_is_later : FnScope ["_law_plan", "_law_ready", "_law_costs", "_law_order", "_law_late_here", "_law_under_here", "_law_tick", "_law_moved", "_law_moment", "_law_name"] ["_law_plan", "_law_ready", "_law_costs", "_law_order", "_law_late_here", "_law_under_here"] (defScope s__law_is_later) := ⟨rfl, rfl, rfl, by decide +kernel, rfl, by decide +kernel, by decide +kernel⟩
section
variable {P : Program} {w : World} {K : PySem.W.Frag} {mg : Str → Option Value} {base : Heap}
theorem ok_latT {f : Addr} {fd : FuncData} (F : Fun K "_law_is_later" "_law_is_later" s__law_is_later f fd) (b_dict : mg "dict" = none) (b_sum : mg "sum" = none) (c__law_common : Fn P w K mg base CX0 1 "_law_common" ["_law_plan"] spComT) (c__law_played : Fn P w K mg base CX0 2 "_law_played" ["_law_plan", "_law_ready", "_law_costs", "_law_order"] spPlayT) (c__law_offered : Fn P w K mg base CX0 1 "_law_offered" ["_law_plan", "_law_ready", "_law_moment"] spOffT) :
    FnG P w K mg base CX0 3 f fd ["_law_plan", "_law_ready", "_law_costs", "_law_order", "_law_late_here", "_law_under_here"] spLatT := by
  refine funG F sc__law_is_later (fun vs H Q E h => ?_) (fun cd A' fr s H vs Q E hr hg h => ?_)
  · obtain ⟨p, d, lc, lo, sa, sb, tk, a, b, fee, o, ra, rb, cs, aF, l, u, rfl, _⟩ := h; rfl
  · obtain ⟨p, d, lc, lo, sa, sb, tk, a, b, fee, o, ra, rb, cs, aF, l, u, rfl, pl, hc, hd, hlc, hne, hl10, hc1, hf1, hlo, hra, hrb, hl, hu, k⟩ := h
    refine ⟨_, (pss_cons (ps_set (i := 6) sc__law_is_later.nd rfl (Or.inl rfl) (pe_f c__law_common hr hg pass0 (pa_cons (pv 0) pa_nil)))
      (pss_cons (ps_set (i := 7) sc__law_is_later.nd rfl (Or.inl rfl) (pe_callTy (call_dictP (by rfl)) (by rfl) b_dict (by decide +kernel) (pa_cons (pe_lock (pe_lc (own := [("_law_name", 9)]) (g := gName 9) (tt := tYes) (by rfl) sc__law_is_later.nd (pi_keys (pv 1)) (blkOk_by (own := [("_law_name", 9)]) (N := names__law_is_later) (sc := defScope s__law_is_later) (by decide +kernel)) (fun _ _ _ _ _ => pg_name (i := 9) sc__law_is_later.nd rfl (Or.inl rfl)) (fun _ _ _ _ _ => pts_nil) (fun _ _ _ _ _ => (pe_tup (pa_cons (pv 9) (pa_cons (pe_op opMul (pe_dget (hu_of hr) (pv 1) (pv 9) (fun _ _ => rfl)) (pv 5)) pa_nil)))))) pa_nil)))
      (pss_cons (ps_set (i := 8) sc__law_is_later.nd rfl (Or.inl rfl) (pe_op op_sub (pe_op opMul (pe_f c__law_played hr hg pass0 (pa_cons (pv 0) (pa_cons (pv 1) (pa_cons (pv 2) (pa_cons (pv 3) pa_nil))))) (pv 5)) (pe_op opMul (pv 4) (pv 6))))
      (pss_one (ps_ret (pe_cmpR op_gt (pe_f c__law_offered hr hg pass0 (pa_cons (pv 0) (pa_cons (pv 7) (pa_cons (pv 8) pa_nil)))) (pe_op opMul (pe_op opMul (pe_callB (KX.sumT (K := K) rfl rfl) (by rfl) b_sum (by decide +kernel) (pa_cons (pv 2) pa_nil)) (pv 6)) (pv 5)) (nomark _))))))), ?_⟩
    obtain ⟨s1, s2, s3, s4, t1, t3⟩ := hc.small
    have nd2 := two_nd o (ra : Int) (rb : Int)
    tm_at "s"
    refine ⟨p, sa, sb, tk, a, b, _, rfl, pl, hc, fun H1 e1 => ?_⟩
    have hd1 := e1 _ _ hd
    try dsimp only
    tm_at "s"
    refine s_lock hd1 fun od => ?_
    refine s_lcKt ?_
    tm_at "s"
    refine ⟨d, od, rfl, .inl ⟨_, upd_same, lcObjK (fun i v H => ∀ q, (two o (ra : Int) (rb : Int))[i]? = some q → ∃ t, v = .ref t ∧ H t = some (.tup [.str q.1, .int (q.2 * (u : Int))])) (fun i v H H' h x q hq => ?_) (fun i v H D l l' h hD q hq => ?_) upd_same (by rw [List.length_map, two_len]; exact sz100k (by omega)) (fun _ => rfl) (fun i kk v J1 R hkv y1 r => ?_) fun D2 J2 vs nD2 y2 hD2 hlen hus => ⟨y2 _ _ upd_same, ?_⟩⟩⟩
    · obtain ⟨t, e, ht⟩ := h q hq
      exact ⟨t, e, x _ _ ht⟩
    · obtain ⟨t, e, ht⟩ := h q hq
      exact ⟨t, e, by rw [upd_ne (fun z => by rw [z, hD] at ht; cases ht)]; exact ht⟩
    · rw [List.getElem?_map] at hkv
      cases hp : (two o (ra : Int) (rb : Int))[i]? with
      | none => rw [hp] at hkv; cases hkv
      | some q =>
      rw [hp] at hkv
      cases hkv
      have hm := List.mem_of_getElem? hp
      have hq2 : 0 ≤ q.2 ∧ q.2 ≤ 100000 := by
        have : q.2 = (ra : Int) ∨ q.2 = (rb : Int) := by
          cases o
          · have h : q = (("b" : Str), (rb : Int)) ∨ q = (("a" : Str), (ra : Int)) := by simpa [two] using hm
            rcases h with rfl | rfl
            · exact .inr rfl
            · exact .inl rfl
          · have h : q = (("a" : Str), (ra : Int)) ∨ q = (("b" : Str), (rb : Int)) := by simpa [two] using hm
            rcases h with rfl | rfl
            · exact .inl rfl
            · exact .inr rfl
        omega
      tm_at "s"
      refine s_dgS (.inr ⟨od, y1 _ _ upd_same⟩) (valV_mem nd2 hm) ?_
      try dsimp only
      tm_at "s"
      refine s_mulI (mulL ⟨by omega, by omega⟩) ?_
      try dsimp only
      tm_at "s"
      refine s_new (Nat.le_of_lt (small1000 (by simp))) fun t J3 nt y3 ht => ?_
      exact r _ J3 y3 fun q' hq' => ⟨t, rfl, by rw [hp] at hq'; cases hq'; exact ht⟩
    rw [List.length_map] at hlen
    have fz := y2 _ _ upd_same
    have e2 : Ex H1 (upd J2 d (.dK ((two o (ra : Int) (rb : Int)).map wI))) := ex_unlock hd1 y2
    have hD3 : (upd J2 d (.dK ((two o (ra : Int) (rb : Int)).map wI))) D2 = some (.lst vs) := by rw [upd_ne (fun z => by rw [z, fz] at hD2; cases hD2)]; exact hD2
    obtain ⟨ps, rfl, pr⟩ := refsT (K := K) (H := upd J2 d (.dK ((two o (ra : Int) (rb : Int)).map wI))) (g := fun q => q.2 * (u : Int)) hlen fun i v h1 q h2 => by
      obtain ⟨t, e, ht⟩ := hus i v h1 q h2
      exact ⟨t, e, by rw [upd_ne (fun z => by rw [z, fz] at ht; cases ht)]; exact ht⟩
    generalize upd J2 d (.dK ((two o (ra : Int) (rb : Int)).map wI)) = H4 at e2 hD3 pr ⊢
    try dsimp only
    tm_at "s"
    refine ⟨D2, ps, _, rfl, .inl (.inl hD3), pr, fun dm ndm => ?_⟩
    rw [show (two o (ra : Int) (rb : Int)).map (fun q => (q.1, q.2 * (u : Int))) = two o ((ra * u : Nat) : Int) ((rb * u : Nat) : Int) by cases o <;> rfl]
    rw [show mergeK [] ((two o ((ra * u : Nat) : Int) ((rb * u : Nat) : Int)).map wI) = (two o ((ra * u : Nat) : Int) ((rb * u : Nat) : Int)).map wI from merge_new (ws := []) (two_nd o _ _) (fun _ _ z => nomatch z)]
    have hdm : (upd H4 dm (.dK ((two o ((ra * u : Nat) : Int) ((rb * u : Nat) : Int)).map wI))) dm = some (.dK ((two o ((ra * u : Nat) : Int) ((rb * u : Nat) : Int)).map wI)) := upd_same
    have e5 : Ex H4 (upd H4 dm (.dK ((two o ((ra * u : Nat) : Int) ((rb * u : Nat) : Int)).map wI))) := ex_new ndm
    generalize upd H4 dm (.dK ((two o ((ra * u : Nat) : Int) ((rb * u : Nat) : Int)).map wI)) = H5 at e5 hdm ⊢
    have e05 := e1.trans (e2.trans e5)
    have pl4 := (pl.ex e1).ex e2
    try dsimp only
    tm_at "s"
    refine ⟨p, d, lc, lo, sa, sb, tk, a, b, fee, o, ra, rb, cs, aF, rfl, pl.ex e05, hc, e05 _ _ hd, e05 _ _ hlc, hne, hl10, hc1, hf1, e05 _ _ hlo, fun H6 e6 => ?_⟩
    have hsm := sm_le hc1
    have hmx : maxE (fee * tk) (tk / sa) (tk / sb) aF cs ra rb 0 ≤ 100000 + 10 * 3000 + 10000 * 6 := by
      have h1 : tk / sa ≤ 3 := Nat.le_trans (Nat.div_le_self _ _) t3
      have h2 : tk / sb ≤ 3 := Nat.le_trans (Nat.div_le_self _ _) t3
      have h3 : sm cs * (tk / sa + tk / sb) ≤ 10000 * 6 := Nat.mul_le_mul (by omega) (by omega)
      have h4 : fee * tk ≤ 1000 * 3 := Nat.mul_le_mul hf1 t3
      have h5 : cs.length * (fee * tk) ≤ 10 * 3000 := Nat.mul_le_mul hl10 h4
      exact maxE_le _ _ _ _ _ _ _ _ _ (Nat.zero_le _) (by omega) (by omega)
    generalize hX : maxE (fee * tk) (tk / sa) (tk / sb) aF cs ra rb 0 = X at hmx
    try dsimp only
    tm_at "s"
    refine s_mulI (mulL ⟨by omega, by omega⟩) ?_
    try dsimp only
    tm_at "s"
    have w1000 : (10 : Nat) ^ 60 < 2 ^ 1000 := by decide +kernel
    have w3 : (3 : Nat) < 2 ^ 1000 := by decide +kernel
    refine s_mulI (m1000 (by rw [Int.natAbs_natCast]; omega) (by rw [Int.natAbs_natCast]; omega)) ?_
    refine ⟨_, _, rfl, rfl, ?_⟩
    try dsimp only
    tm_at "s"
    obtain ⟨ds0, hp4, hds4⟩ := id pl4
    have e56 := e5.trans e6
    refine ⟨p, dm, sa, sb, tk, a, b, _, o, _, _, _, rfl, pl4.ex e56, hc, e6 _ _ hdm, fun ds hpd z => ?_, fun H7 e7 => ?_⟩
    · rw [e56 _ _ hp4] at hpd
      have h1 := congrArg (fun (l : List (Key × V)) => valV l (Sum.inr ("speeds" : Str))) (HO.dK.inj (Option.some.inj hpd))
      have h2 : some (V.ref ds0) = some (V.ref ds) := h1
      injection h2 with h2
      injection h2 with h2
      rw [← h2] at z
      rw [z] at hds4
      rw [hds4] at ndm
      cases ndm
    try dsimp only
    tm_at "s"
    have e07 := e05.trans (e6.trans e7)
    refine ⟨lc, cs.map Int.ofNat, rfl, .inl (.inl (e07 _ _ hlc)), ?_⟩
    rw [sm_sum]
    try dsimp only
    tm_at "s"
    refine s_mulI (mulL ⟨by omega, by omega⟩) ?_
    try dsimp only
    tm_at "s"
    refine s_mulI (mulL ?_) ?_
    · have h1 : sm cs * tk ≤ 10000 * 3 := Nat.mul_le_mul (by omega) t3
      rw [← Int.natCast_mul]
      constructor <;> omega
    refine ⟨_, _, rfl, rfl, ?_⟩
    have hfin := later_is (fee * tk) (tk / sa) (tk / sb) sa sb (l * tk) u (sm cs * tk * u) ra rb cs aF
    rw [hX] at hfin
    simp only [Int.natCast_mul] at hfin ⊢
    rw [hfin]
    exact k H7 e07
end
end K30
end
section
namespace L2
open PySem PySem.Spec PyProof.Rows
abbrev setF (w : World) : Obj := { cls := .type "set", dict := none, data := .set #[] 0 (.fresh 0 0 (!w.params.followText "set-order")) }
section
variable {P : Program} {w : World} {A : Around} {E : Value → Shared → Prop} {s : Shared}
set_option maxRecDepth 100000 in
set_option maxHeartbeats 3200000 in
theorem call_set_lstI {l : Addr} {items : Array Value} (ns : List Int) {Q : Value → Shared → Prop} (hh : A.handled = none) (hl : s.heap.IsList l items) (hit : IntsAre items.toList ns) (hb : ns.length + 1 < scanBound)
    (h : ∀ (h' : Heap) (tk c : Nat), SetR w h' s.heap.objs.size (fun j => decide (j ∈ ns)) c → c ≤ ns.length → (∀ b o, s.heap.get? b = some o → h'.get? b = some o) → Q (.ref s.heap.objs.size) { s with heap := h', toks := tk }) :
    wpAny (model P w) A (call (.type "set") [.ref l]) Q E s := by
  have hisz : items.size = ns.length := by
    have q := IntsAre.length hit
    rw [Array.length_toList] at q
    exact q
  obtain ⟨c, tl, hmro⟩ := F.called_set.mro
  have hmade := F.called_set.made
  have hsub := F.called_set.sub
  refine wpAny_call (codeAny_of_tree ?_)
  show wpAny _ _ (callAny (.type "set") _) _ _ _
  refine wpAny_pure ⟨Code.quiet_builtin _ (by decide +kernel), codeAny_builtin F.entry_type_call ?_⟩
  rw [Around.under_plain (weight_type_call_type "set" [.ref l] []) rfl]
  have h1 := F.called_set.notType
  have h2 := F.called_set.canCreate
  have hct := F.typeCall_set_1 (.ref l)
  repeat (any_goals (first | assumption | wp_step))
  refine codeAny_mono (code_set_led1 (.ref l) (E := E) (Q₁ := fun obj s₁ => obj = .ref s.heap.objs.size ∧ s₁ = { s with heap := s.heap.push (setF w) }) ⟨rfl, rfl⟩) fun r s₁ hr => ?_
  cases r with
  | error e => exact hr
  | ok fl =>
    cases fl with
    | ret obj =>
      obtain ⟨rfl, rfl⟩ := hr
      have hS : (s.heap.push (setF w)).get? s.heap.objs.size = some (setF w) := Heap.get?_push_size _ rfl
      have hT : Shared.TypeIs { s with heap := s.heap.push (setF w) } (.ref s.heap.objs.size) "set" := ⟨_, hS, rfl⟩
      have hli := F.called_set.init.lookup
      have hbi := F.called_set.init.bind (.ref s.heap.objs.size)
      repeat (any_goals (first | assumption | wp_step))
      refine codeAny_mono (codeAny_call_builtin (R := wants (fun r s₂ => r = .none ∧ ∃ h' tk c, s₂ = { s with heap := h', toks := tk } ∧ SetR w h' s.heap.objs.size (fun j => decide (j ∈ ns)) c ∧ c ≤ ns.length ∧
          (∀ b o, s.heap.get? b = some o → h'.get? b = some o)) E) F.called_set.init.plain F.entry_set_init (check_set_init_1 hT ?_)) fun r₂ s₂ hr₂ => ?_
      · obtain ⟨ol, hol, hcl, nl, hdl⟩ := hl
        obtain ⟨ocls, odict, odata, oslots⟩ := ol
        simp only at hcl hdl
        subst hcl; subst hdl
        have hol' : (s.heap.push (setF w)).get? l = some { cls := .type "list", dict := odict, data := .seq items nl, slots := oslots } := Heap.get?_push_of_some _ hol
        have hsls := F.sub_list_set
        have hslf := F.sub_list_frozenset
        have hne : (Value.type "list" == Value.type "dict") = false := by decide
        have hl1 : (s.heap.push (setF w)).IsList l items := ⟨_, hol', rfl, nl, rfl⟩
        unfold Builtin.«set.__init__» noKeywords Builtin.Frozenset.updateFrom
        generalize hPI : pyIter = PI
        wp_walk
        subst hPI
        refine wpAny_pyIter_list hl1 ?_
        refine wpAny_bind (wpAny_runValue ?_)
        have hlS : l < s.heap.objs.size := Heap.lt_size hol
        have hh3 : A.in1.in1.in1.handled = none := by simp [hh]
        have hz1 : (s.heap.push (setF w)).objs.size = s.heap.objs.size + 1 := Heap.size_push ..
        have hneI : l ≠ (s.heap.push (setF w)).objs.size := by
          rw [Heap.size_push]; exact Nat.ne_of_lt (Nat.lt_succ_of_lt hlS)
        have hSf : s.heap.objs.size ∉ [(s.heap.push (setF w)).objs.size, l] := by
          rw [Heap.size_push]; simp only [List.mem_cons, List.mem_singleton, List.not_mem_nil, or_false, not_or]
          exact ⟨Nat.ne_of_lt (Nat.lt_succ_self _), Nat.ne_of_gt hlS⟩
        have hval : ∀ (i : Nat) (v : Value), items[i]? = some v → ∃ k t, ns[i]? = some k ∧ v = .int k t := fun i v hv => by
          have hi : i < ns.length := by rw [← hisz]; exact (Array.getElem?_eq_some_iff.mp hv).1
          obtain ⟨t, e⟩ := PyProof.Rows.IntsAre.int_at hit i v (by rw [Array.getElem?_toList]; exact hv)
          refine ⟨ns[i], t, List.getElem?_eq_getElem hi, ?_⟩
          rw [e, List.getD_eq_getElem?_getD, List.getElem?_eq_getElem hi] <;> rfl
        refine set_update_ints ((Walks.list hh3 _ l hneI items).toS) s.heap.objs.size
          hSf ns hisz hb hval (items.size - 0) 0 _ (by omega) (Nat.zero_le _)
          ⟨⟨_, Heap.get?_push_size _ rfl, rfl, rfl⟩, (hl1.push _)⟩ ?hS0 ?hR
        case hS0 =>
          have hget : ((s.heap.push (setF w)).push { cls := .type "list_iterator", data := .fields #[.ref l, .int 0 0] }).get? s.heap.objs.size
              = some (setF w) := Heap.get?_push_of_some _ hS
          exact ⟨0, Nat.le_refl 0, setR_new_at hget⟩
        case hR =>
          intro s' c' hm hc' hS'
          obtain ⟨h', g2, d', tk', os'⟩ := s'
          have eg : g2 = s.gens := hm.gens
          have ed : d' = s.drawn := hm.drawn
          have eo : os' = s.os := hm.os
          subst eg; subst ed; subst eo
          show wpAny _ _ _ _ _ _
          refine wpAny_pure ?_
          show wpAny _ _ (ret Value.none) _ _ _
          rw [hisz] at hc'
          refine wpAny_pure ⟨rfl, h', tk', c', rfl, hS', hc', fun b o e => ?_⟩
          have hb0 : b < s.heap.objs.size := Heap.lt_size e
          have hb1 : b ≠ s.heap.objs.size := Nat.ne_of_lt hb0
          have hb2 : b ≠ (s.heap.push (setF w)).objs.size := by
            rw [Heap.size_push]; exact Nat.ne_of_lt (Nat.lt_succ_of_lt hb0)
          exact hm.heap b o (by simp only [List.mem_cons, List.mem_singleton, List.not_mem_nil, or_false, not_or]; exact ⟨hb1, hb2⟩) (Heap.get?_push_of_some _ (Heap.get?_push_of_some _ e))
      · cases r₂ with
        | error e => exact hr₂
        | ok fl₂ =>
          cases fl₂ with
          | ret r =>
            obtain ⟨rfl, h', tk, c', rfl, hS', hc', hk'⟩ := hr₂
            repeat (any_goals (first | assumption | wp_step))
            exact h _ _ _ hS' hc' hk'
          | _ => exact hr₂.elim
    | _ => exact hr.elim
end
end L2
namespace L3
open PySem PySem.Spec PyProof.Rows L2 LamX ItX
def rSetLi (K : PySem.W.Frag) (w : World) : List V → Hp → VK → Prop := fun xs H Q => ∃ (l : Addr) (ns : List Int), xs = [.ref l] ∧ SqL K H l (ns.map V.int) ∧ ns.length ≤ 4000 ∧ ∀ p c, c ≤ ns.length → H p = none → Q (.ref p) (upd H p (SetO w p (fun j => decide (j ∈ ns)) c))
theorem callSetLi {X : Cx} (hc : X.calm = true) : CallR X (.type "set") (rSetLi X.K X.w) := by
  intro pins s σ H xs us Q I r h
  obtain ⟨l, ns, rfl, hq, hl, q⟩ := h
  obtain ⟨u, rfl, ru⟩ := vals1 r
  cases ru
  obtain ⟨its, rv, pt, hz⟩ := I.list hq
  have hi : IntsAre its.toArray.toList ns := ints_of_vals rv
  refine call_set_lstI ns (I.ok.hd hc) pt.isList hi (by unfold scanBound; omega) fun h' tk c R1 hcn k => ?_
  exact ⟨.ref s.heap.objs.size, _, I.laid (t' := tk) k (Nat.le_refl _) (setO_new R1), rfl, q _ c hcn (I.hok.fresh (Nat.le_refl _))⟩
/-- sorted(set(l)): the numbers of l, each once, ascending -/
theorem s_setLi {K : PySem.W.Frag} {w : World} {H : Hp} {Q : VK} {l : Addr} {ns : List Int} (hl : H l = some (.lst (ns.map V.int))) (hz : ns.length < 60) (k : ∀ p c H2, c ≤ ns.length → H p = none → Ex H H2 → H2 p = some (SetO w p (fun j => decide (j ∈ ns)) c) → Q (.ref p) H2) : rSetLi K w [.ref l] H Q :=
  ⟨l, ns, rfl, .inl (.inl hl), by omega, fun p c hc hp => k p c _ hc hp (ex_new hp) upd_same⟩
theorem s_sortSet {w : World} {H : Hp} {Q : VK} {a : Addr} {ns : List Int} {c : Nat} (ha : H a = some (SetO w a (fun j => decide (j ∈ ns)) c)) (hc : c < 64) (k : ∀ (ms : List Int) (p : Addr) (H2 : Hp), ms.Pairwise (· < ·) → (∀ x, x ∈ ms ↔ x ∈ ns) → H p = none → Ex H H2 → H2 p = some (.lst (ms.map V.int)) → Q (.ref p) H2) : rSortedSet w [.ref a] H Q :=
  ⟨a, _, c, rfl, ha, hc, fun ms p h1 h2 _ hp => k ms p _ h1 (fun x => (h2 x).trans decide_eq_true_iff) hp (ex_new hp) upd_same⟩
/-- two numbers, sorted, each once -/
theorem two_sorted {ms : List Int} {x y : Int} (h : ms.Pairwise (· < ·)) (hm : ∀ z, z ∈ ms ↔ z ∈ [x, y]) (hxy : x ≤ y) : ms = if x = y then [x] else [x, y] := by
  match ms, h, hm with
  | [], _, hm => exact absurd ((hm x).mpr (by simp)) (List.not_mem_nil)
  | [a], _, hm =>
    have h1 := (hm x).mpr (by simp)
    have h2 := (hm y).mpr (by simp)
    have h1 : x = a := by simpa using h1
    have h2 : y = a := by simpa using h2
    subst h1
    rw [if_pos h2.symm]
  | [a, b], h, hm =>
    have hab : a < b := by simpa using h
    have ha := (hm a).mp (by simp)
    have hb := (hm b).mp (by simp)
    have ha : a = x ∨ a = y := by simpa using ha
    have hb : b = x ∨ b = y := by simpa using hb
    have : ¬ x = y := by omega
    rw [if_neg this]
    have h1 : a = x := by omega
    have h2 : b = y := by omega
    rw [h1, h2]
  | a :: b :: c :: r, h, hm =>
    have hp := List.pairwise_cons.mp h
    have hp2 := List.pairwise_cons.mp hp.2
    have h1 := hp.1 b (by simp)
    have h2 := hp2.1 c (by simp)
    have ha := (hm a).mp (by simp)
    have hb := (hm b).mp (by simp)
    have hc := (hm c).mp (by simp)
    have ha : a = x ∨ a = y := by simpa using ha
    have hb : b = x ∨ b = y := by simpa using hb
    have hc : c = x ∨ c = y := by simpa using hc
    omega
end L3
end
section
namespace L3
open PySem PySem.NumText PySem.Spec PyProof.Rows L2 LamX RZ
/-- a list of lists of numbers -/
def LsN (H : Hp) (l : Addr) (css : List (List Nat)) : Prop := ∃ ps : List Addr, H l = some (.lst (ps.map V.ref)) ∧ ps.length = css.length ∧ ∀ (i : Nat) (p : Addr) (c : List Nat), ps[i]? = some p → css[i]? = some c → H p = some (.lst ((c.map Int.ofNat).map V.int))
theorem LsN.ex {H H' : Hp} {l : Addr} {css : List (List Nat)} (h : LsN H l css) (e : Ex H H') : LsN H' l css :=
  let ⟨ps, h1, h2, h3⟩ := h; ⟨ps, e _ _ h1, h2, fun i p c a b => e _ _ (h3 i p c a b)⟩
theorem LsN.nil {H : Hp} {l : Addr} (h : H l = some (.lst [])) : LsN H l [] := ⟨[], h, rfl, fun i p c a _ => by simp at a⟩
theorem LsN.one {H : Hp} {l p : Addr} {c : List Nat} (h : H l = some (.lst [.ref p])) (h1 : H p = some (.lst ((c.map Int.ofNat).map V.int))) : LsN H l [c] :=
  ⟨[p], h, rfl, fun i q d a b => by
    match i, a, b with
    | 0, a, b => cases a; cases b; exact h1⟩
/-- the refs of two lists, joined in a third one -/
theorem LsN.app {H H' : Hp} {l l2 l3 : Addr} {A B : List (List Nat)} {xs ys : List V} (h1 : LsN H l A) (h2 : LsN H l2 B) (hl : H l = some (.lst xs)) (hl2 : H l2 = some (.lst ys)) (e : Ex H H') (h3 : H' l3 = some (.lst (xs ++ ys))) : LsN H' l3 (A ++ B) := by
  obtain ⟨ps, a1, a2, a3⟩ := h1
  obtain ⟨qs, b1, b2, b3⟩ := h2
  rw [a1] at hl
  rw [b1] at hl2
  cases hl
  cases hl2
  refine ⟨ps ++ qs, by rw [h3, List.map_append], by rw [List.length_append, List.length_append, a2, b2], fun i p c hp hc => ?_⟩
  rcases Nat.lt_or_ge i ps.length with hi | hi
  · rw [List.getElem?_append_left hi] at hp
    rw [List.getElem?_append_left (by omega)] at hc
    exact e _ _ (a3 i p c hp hc)
  · rw [List.getElem?_append_right hi] at hp
    rw [List.getElem?_append_right (by omega)] at hc
    exact e _ _ (b3 _ p c hp (by rw [a2]; exact hc))
theorem LsN.at {H : Hp} {l : Addr} {css : List (List Nat)} {xs : List V} (h : LsN H l css) (hl : H l = some (.lst xs)) {i : Nat} {x : V} (hx : xs[i]? = some x) : ∃ p c, x = .ref p ∧ css[i]? = some c ∧ H p = some (.lst ((c.map Int.ofNat).map V.int)) := by
  obtain ⟨ps, a1, a2, a3⟩ := h
  rw [a1] at hl
  cases hl
  rw [List.getElem?_map] at hx
  cases hp : ps[i]? with
  | none => rw [hp] at hx; cases hx
  | some p =>
    rw [hp] at hx
    have hi := (List.getElem?_eq_some_iff.mp hp).1
    have hc : css[i]? = some (css[i]'(by omega)) := List.getElem?_eq_getElem (by omega)
    exact ⟨p, _, (Option.some.inj hx).symm, hc, a3 i p _ hp hc⟩
/-- one size more -/
def moreC (most s : Nat) (c : List Nat) : List (List Nat) := match Nat.beq most 1 with | true => [c ++ [s]] | false => [c ++ [s], c ++ [s * most]]
def eachC (b : Nat) : List Nat := match Nat.beq b 1 with | true => [1] | false => [1, b]
theorem moreC_each (b z : Nat) (c : List Nat) : moreC b z c = (eachC b).map fun e => c ++ [z * e] := by
  unfold moreC eachC
  cases Nat.beq b 1 <;> simp
theorem eachC_is {b : Nat} {ms : List Int} (h : ms = if (1 : Int) = (b : Int) then [1] else [1, (b : Int)]) : ms = (eachC b).map Int.ofNat := by
  rw [h]
  unfold eachC
  by_cases e : b = 1
  · subst e; rfl
  · rw [if_neg (by omega), show Nat.beq b 1 = false from by cases hb : Nat.beq b 1 with | false => rfl | true => exact absurd (Nat.eq_of_beq_eq_true hb) e]
    rfl
theorem LsN.ofAt {H : Hp} {l : Addr} {qs : List Addr} {css : List (List Nat)} (h : H l = some (.lst (qs.map V.ref))) (ha : LsAt H qs (css.map fun c => c.map Int.ofNat)) : LsN H l css := by
  have : ∀ (qs : List Addr) (css : List (List Nat)), LsAt H qs (css.map fun c => c.map Int.ofNat) → qs.length = css.length ∧ ∀ (i : Nat) (p : Addr) (c : List Nat), qs[i]? = some p → css[i]? = some c → H p = some (.lst ((c.map Int.ofNat).map V.int)) := fun qs => by
    induction qs with
    | nil =>
      intro css h
      match css, h with
      | [], _ => exact ⟨rfl, fun i p c a _ => by simp at a⟩
    | cons q r ih =>
      intro css h
      match css, h with
      | c :: cr, h =>
        obtain ⟨b1, b2⟩ := ih cr h.2
        refine ⟨by rw [List.length_cons, List.length_cons, b1], fun i p d a b => ?_⟩
        match i, a, b with
        | 0, a, b => cases a; cases b; exact h.1
        | i + 1, a, b => exact b2 i p d a b
  obtain ⟨b1, b2⟩ := this qs css ha
  exact ⟨qs, h, b1, b2⟩
theorem moreC_len (b z : Nat) (c : List Nat) : (moreC b z c).length ≤ 2 := by unfold moreC; cases Nat.beq b 1 <;> simp
theorem moreC_mem {b z : Nat} {c d : List Nat} (h : d ∈ moreC b z c) : d.length = c.length + 1 := by
  unfold moreC at h
  cases hb : Nat.beq b 1 with
  | true => rw [hb] at h; have h : d = c ++ [z] := by simpa using h
            rw [h, List.length_append]; rfl
  | false => rw [hb] at h
             have h : d = c ++ [z] ∨ d = c ++ [z * b] := by simpa using h
             rcases h with h | h <;> rw [h, List.length_append] <;> rfl
theorem addC_eq (b z : Nat) (l : List (List Nat)) : addC b z l = l.flatMap (moreC b z) := rfl
theorem addC_len (b z : Nat) (l : List (List Nat)) : (addC b z l).length ≤ 2 * l.length := by
  rw [addC_eq]
  induction l with
  | nil => exact Nat.le_refl _
  | cons a r ih => rw [List.flatMap_cons, List.length_append, List.length_cons]; have := moreC_len b z a; omega
theorem addC_mem {b z k : Nat} {l : List (List Nat)} (h : ∀ c ∈ l, c.length ≤ k) : ∀ c ∈ addC b z l, c.length ≤ k + 1 := fun c hc => by
  rw [addC_eq] at hc
  obtain ⟨d, hd, hcd⟩ := List.mem_flatMap.mp hc
  have := h d hd
  have := moreC_mem hcd
  omega
theorem foldC : ∀ (b : Nat) (sz : List Nat) (acc : List (List Nat)) (m k : Nat), acc.length ≤ m → (∀ c ∈ acc, c.length ≤ k) → (sz.foldl (fun l s => addC b s l) acc).length ≤ m * 2 ^ sz.length ∧ ∀ c ∈ sz.foldl (fun l s => addC b s l) acc, c.length ≤ k + sz.length
  | b, [], acc, m, k, h1, h2 => ⟨by simpa using h1, by simpa using h2⟩
  | b, s :: r, acc, m, k, h1, h2 => by
    have h3 := addC_len b s acc
    obtain ⟨a1, a2⟩ := foldC b r (addC b s acc) (2 * m) (k + 1) (by omega) (addC_mem h2)
    refine ⟨?_, fun c hc => ?_⟩
    · rw [List.foldl_cons, List.length_cons, Nat.pow_succ]
      refine Nat.le_trans a1 (Nat.le_of_eq ?_)
      rw [Nat.mul_comm 2 m, Nat.mul_assoc, Nat.mul_comm 2]
    · have := a2 c hc
      rw [List.length_cons]
      omega
theorem allC_len (b : Nat) (sz : List Nat) : (allC b sz).length ≤ 2 ^ sz.length ∧ ∀ c ∈ allC b sz, c.length ≤ sz.length := by
  obtain ⟨a1, a2⟩ := foldC b sz [[]] 1 0 (Nat.le_refl _) (fun c hc => by rw [List.mem_singleton.mp hc]; exact Nat.le_refl _)
  exact ⟨by rw [Nat.one_mul] at a1; exact a1, fun c hc => by have := a2 c hc; omega⟩
theorem addC_snoc (most s : Nat) (l : List (List Nat)) (c : List Nat) : addC most s (l ++ [c]) = addC most s l ++ moreC most s c := by
  unfold addC moreC
  rw [List.flatMap_append]
  simp
  cases most.beq 1 <;> rfl
theorem allC_snoc (most s : Nat) (sz : List Nat) : allC most (sz ++ [s]) = addC most s (allC most sz) := by
  unfold allC
  rw [List.foldl_append]
  rfl
def spAllC : Sp := fun vs H Q _ => ∃ p ls sa sb tk b fee sz, vs = [.ref p, .ref ls] ∧ Plan H p (pairW sa sb) 1 ((b : Nat) : Int) ((fee : Nat) : Int) ∧ Crew2 sa sb tk ∧ (b = 1 ∨ b = 2) ∧ H ls = some (.lst ((sz.map Int.ofNat).map V.int)) ∧ sz.length ≤ 3 ∧ (∀ s ∈ sz, s ≤ 3) ∧ ∀ D H', H D = none → Ex H H' → LsN H' D (allC b sz) → Q (.ref D) H'
end L3
end
section
set_option exponentiation.threshold 9000
local macro_rules | `(tactic| tm_at "s1") => `(tactic| first
  | with_reducible first
    | refine L3.s_seq ?_ | refine L3.s_asg ?_ | refine L3.s_op ?_ | refine L3.s_c ?_ | refine L3.s_cb ?_ | refine L3.s_cons ?_ | refine L3.s_nil ?_ | refine L3.s_test ?_ | refine L3.s_bl ?_
    | refine L3.s_I0 ?_ | refine L3.s_and ?_ | refine L3.s_or ?_ | refine L3.s_not ?_ | refine L3.s_if ?_ | refine L3.s_next ?_ | refine L3.s_ret ?_ | refine L3.s_retN ?_ | refine L3.s_asgS ?_ | refine L3.s_drop ?_
    | refine L3.s_un ?_ | refine L3.s_U ?_ | refine L3.s_int ?_ | refine L3.s_intB ?_ | refine L3.s_abs ?_ | refine L3.s_andV ?_ | refine L3.s_orV ?_ | refine L3.s_notV ?_ | refine L3.s_ifE ?_ | refine L3.s_call ?_ | refine L3.s_lst ?_ | refine L3.s_tup ?_ | refine L3.s_tB ?_
    | refine L3.s_addI ?_ | refine L3.s_inS ?_ | refine L3.s_ninS ?_ | refine L3.s_slice ?_ | refine L3.s_part ?_ | refine L3.s_partI ?_ | refine L3.s_nopart ?_ | refine L3.s_cI ?_ | refine L3.s_cB ?_ | refine L3.s_chain ?_ | refine L3.s_bm ?_ | refine L3.s_lcS ?_ | refine L3.s_lcR ?_ | refine L3.s_strE ?_
    | refine L2.iteT ?_ | refine L2.iteF ?_ | refine L3.iteNF ?_ | refine L3.iteNT ?_
    | refine L3.s_eqI ?_ | refine L3.s_neI ?_ | refine L3.s_eqS ?_ | refine L3.s_neS ?_
    | refine L3.s_pair ?_ | refine L3.s_pair2 ?_ | refine L3.s_fld ?_ | refine L3.s_make ?_ | refine L3.s_m1 ?_ | refine L3.s_isstr ?_
    | refine L3.s_xfV ?_ | refine L3.s_lstN ?_ | refine L3.s_callF ?_ | refine L3.s_lcL ?_ | refine L3.s_par3 ?_ | refine L3.s_trip ?_ | refine L3.s_asgT' ?_ | refine L3.s_gC ?_ | refine L3.s_gN ?_ | refine L3.s_fldG ?_ | refine L3.s_raise1 ?_ | refine L3.s_raise2 ?_ | refine L3.s_star ?_ | refine L3.s_mkCR ?_ | refine L3.s_lcZ ?_ | refine L3.s_forL ?_ | refine L3.s_forT ?_ | refine L3.s_gNm ?_ | refine L3.s_forE ?_ | refine L3.s_stC ?_ | refine L3.s_cmC ?_ | refine L3.s_forR1 ?_ | refine L3.s_lcTp ?_ | refine L3.s_forZ ?_ | refine L3.s_orT ?_ | refine L3.s_mt ?_ | refine L3.s_revT ?_ | refine L3.s_revL ?_ | refine L3.s_slOwn ?_ | refine L3.s_sl3 ?_ | refine L3.s_lcO ?_ | refine L3.s_stR ?_
    | refine L3.s_dcL ?_ | refine L3.s_dcT ?_ | refine L3.s_dget ?_ | refine L3.s_forET ?_ | refine L3.s_din ?_ | refine L3.s_dnin ?_ | refine L3.s_mkKV ?_
    | refine L3.s_isN ?_ | refine L3.s_isB ?_ | refine L3.s_nisN ?_ | refine L3.s_nisB ?_
  | ((with_reducible refine' L3.s_var ?e ?_); (case e => rfl))
  | ((with_reducible refine' L3.s_aug ?e ?_); (case e => rfl))
  | ((with_reducible refine' L3.s_pow ?c ?_); (case c => exact ⟨by decide, by decide, by decide⟩)))
local macro_rules | `(tactic| tm_at "s") => `(tactic| repeat tm_at "s1")
namespace K30
open PySem PySem.NumText PySem.Spec PyProof.Rows L2 L3 LamX RZ ClX
abbrev s__law_all_costs : Stmt := topS 89
abbrev names__law_all_costs : List Str := ["_law_plan", "_law_sizes_here", "_law_found", "_law_size", "_law_longer", "_law_costs", "_law_each"]
theorem sc__law_all_costs : FnScope ["_law_plan", "_law_sizes_here", "_law_found", "_law_size", "_law_longer", "_law_costs", "_law_each"] ["_law_plan", "_law_sizes_here"] (defScope s__law_all_costs) := ⟨rfl, rfl, rfl, by decide +kernel, rfl, by decide +kernel, by decide +kernel⟩
section
variable {P : Program} {w : World} {K : PySem.W.Frag} {mg : Str → Option Value} {base : Heap}
theorem ok_allC {f : Addr} {fd : FuncData} (F : Fun K "_law_all_costs" "_law_all_costs" s__law_all_costs f fd) (b_int : mg "int" = none) (b_set : mg "set" = none) (b_sorted : mg "sorted" = none) :
    FnG P w K mg base CX0 1 f fd ["_law_plan", "_law_sizes_here"] spAllC := by
  refine funG F sc__law_all_costs (fun vs H Q E h => ?_) (fun cd A' fr s H vs Q E hr hg h => ?_)
  · obtain ⟨p, ls, sa, sb, tk, b, fee, sz, rfl, _⟩ := h; rfl
  · obtain ⟨p, ls, sa, sb, tk, b, fee, sz, rfl, pl, hc, hb, hls, hl3, hs3, k⟩ := h
    refine ⟨_, (pss_cons (ps_set (i := 2) sc__law_all_costs.nd rfl (Or.inl rfl) (pe_lst (pa_cons (pe_lst pa_nil) pa_nil)))
      (pss_cons (ps_for (passes_of rfl) rfl (pi_list (pv 1)) (pg_name (i := 3) sc__law_all_costs.nd rfl (Or.inr rfl)) (pss_cons (ps_set (i := 4) sc__law_all_costs.nd rfl (Or.inl rfl) (pe_lst pa_nil))
      (pss_cons (ps_for (passes_of rfl) rfl (pi_list (pv 2)) (pg_name (i := 5) sc__law_all_costs.nd rfl (Or.inr rfl)) (pss_one (ps_set (i := 4) sc__law_all_costs.nd rfl (Or.inl rfl) (pe_op opAdd (pv 4) (pe_lc (own := [("_law_each", 6)]) (g := gName 6) (tt := tYes) (by rfl) sc__law_all_costs.nd (pi_list (pe_callB (cr_sortedSet rfl) (by rfl) b_sorted (by decide +kernel) (pa_cons (pe_callTy (callSetLi rfl) (by rfl) b_set (by decide +kernel) (pa_cons (pe_lst (pa_cons (pe_callTy (KX.callInt (K := K)) (by rfl) b_int (by decide +kernel) (pa_cons (pe_dget (hu_of hr) (pv 0) pe_str (fun _ _ => rfl)) pa_nil)) (pa_cons (pe_callTy (KX.callInt (K := K)) (by rfl) b_int (by decide +kernel) (pa_cons (pe_dget (hu_of hr) (pv 0) pe_str (fun _ _ => rfl)) pa_nil)) pa_nil))) pa_nil)) pa_nil))) (blkOk_by (own := [("_law_each", 6)]) (N := names__law_all_costs) (sc := defScope s__law_all_costs) (by decide +kernel)) (fun _ _ _ _ _ => pg_name (i := 6) sc__law_all_costs.nd rfl (Or.inl rfl)) (fun _ _ _ _ _ => pts_nil) (fun _ _ _ _ _ => (pe_op opAdd (pv 5) (pe_lst (pa_cons (pe_op opMul (pv 3) (pv 6)) pa_nil)))))))))
      (pss_one (ps_set (i := 2) sc__law_all_costs.nd rfl (Or.inl rfl) (pv 4))))))
      (pss_one (ps_ret (pv 2))))), ?_⟩
    obtain ⟨ds, hp, hds⟩ := id pl
    tm_at "s"
    refine s_new (Nat.le_of_lt (small1000 (by simp))) fun l0 H1 nl0 e1 h1 => ?_
    try dsimp only
    tm_at "s"
    refine s_new (Nat.le_of_lt (small1000 (by simp))) fun l1 H2 nl1 e2 h2 => ?_
    try dsimp only
    tm_at "s"
    refine s_fL ((e1.trans e2) _ _ hls) (fun i σ H' => ∃ (v3 v4 v5 v6 : Option V) (l : Addr), σ = [some (.ref p), some (.ref ls), some (.ref l), v3, v4, v5, v6] ∧ H l = none ∧ Ex H H' ∧ LsN H' l (allC b (sz.take i))) ⟨_, _, _, _, l1, rfl, e1.free nl1, e1.trans e2, .one h2 (e2 _ _ h1)⟩ (fun i σ H' ⟨_, _, _, _, _, _, _, e, _⟩ => e _ _ hls) ?_ ?_
    · rintro i x _ H3 hx ⟨v3, v4, v5, v6, l, rfl, nl, e, hl⟩
      rw [List.getElem?_map, List.getElem?_map] at hx
      obtain ⟨z, hz, rfl⟩ : ∃ z, sz[i]? = some z ∧ x = V.int (z : Int) := by
        cases h : sz[i]? with
        | none => rw [h] at hx; cases hx
        | some c => rw [h] at hx; exact ⟨c, rfl, (Option.some.inj hx).symm⟩
      have hz3 := hs3 z (List.mem_of_getElem? hz)
      have hst : sz.take (i + 1) = sz.take i ++ [z] := take_snoc hz
      rw [hst, allC_snoc]
      have hil : i < sz.length := (List.getElem?_eq_some_iff.mp hz).1
      obtain ⟨hA1, hA2⟩ := allC_len b (sz.take i)
      rw [List.length_take, Nat.min_eq_left (by omega)] at hA1
      have hA1 : (allC b (sz.take i)).length ≤ 4 := Nat.le_trans hA1 (Nat.pow_le_pow_right (by decide) (show i ≤ 2 by omega))
      have hA2 : ∀ c ∈ allC b (sz.take i), c.length ≤ 3 := fun c hc => by have := hA2 c hc; rw [List.length_take] at this; omega
      generalize allC b (sz.take i) = A at hl hA1 hA2 ⊢
      refine s_gNm ?_
      try dsimp only
      tm_at "s"
      refine s_new (Nat.le_of_lt (small1000 (by simp))) fun l2 H4 nl2 e4 h4 => ?_
      try dsimp only
      tm_at "s"
      have hl4 := hl.ex e4
      obtain ⟨xs, hxs, hxl⟩ : ∃ xs, H4 l = some (.lst xs) ∧ xs.length = A.length := by
        obtain ⟨ps, a1, a2, a3⟩ := id hl4
        exact ⟨_, a1, by rw [List.length_map]; exact a2⟩
      refine s_fL hxs (fun j σ H' => ∃ (v5 v6 : Option V) (l' : Addr), σ = [some (.ref p), some (.ref ls), some (.ref l), some (.int (z : Int)), some (.ref l'), v5, v6] ∧ H l' = none ∧ Ex H4 H' ∧ LsN H' l' (addC b z (A.take j))) ⟨_, _, l2, rfl, e.free nl2, Ex.refl H4, .nil h4⟩ (fun j σ H' ⟨_, _, _, _, _, e, _⟩ => e _ _ hxs) ?_ ?_
      · rintro j x2 _ H5 hx2 ⟨v5, v6, l', rfl, nl', e5, hl'⟩
        obtain ⟨p2, c, rfl, hcA, hcell⟩ := hl4.at hxs hx2
        have hst2 : A.take (j + 1) = A.take j ++ [c] := take_snoc hcA
        rw [hst2, addC_snoc]
        have hcl := hA2 c (List.mem_of_getElem? hcA)
        have hBl : (addC b z (A.take j)).length ≤ 8 := by
          have h1 := addC_len b z (A.take j)
          have h2 := List.length_take_le' j A
          omega
        generalize addC b z (A.take j) = B at hl' hBl ⊢
        refine s_gNm ?_
        try dsimp only
        tm_at "s"
        have e35 := e4.trans e5
        have hp5 : H5 p = _ := e35 _ _ (e _ _ hp)
        refine s_dgS (.inl hp5) rfl ?_
        try dsimp only
        tm_at "s"
        refine s_dgS (.inl hp5) rfl ?_
        try dsimp only
        tm_at "s"
        refine s_new (Nat.le_of_lt (small1000 (by simp))) fun l6 H6 nl6 e6 h6 => ?_
        try dsimp only
        tm_at "s"
        refine s_setLi (ns := [1, (b : Int)]) h6 (by simp) fun st cc H7 hcc nst e7 h7 => ?_
        try dsimp only
        tm_at "s"
        refine s_sortSet h7 (Nat.lt_of_le_of_lt hcc (by simp)) fun ms l8 H8 hpw hmm nl8 e8 h8 => ?_
        have hms := two_sorted hpw hmm (by omega)
        try dsimp only
        tm_at "s"
        have hms := eachC_is hms
        subst hms
        have e58 := e6.trans (e7.trans e8)
        have hcell8 : H8 p2 = _ := e58 _ _ (e5 _ _ hcell)
        have hb2 : ∀ ev ∈ eachC b, ev ≤ 2 := fun ev hev => by
          rcases hb with rfl | rfl
          · have : ev = 1 := by simpa [eachC] using hev
            omega
          · have : ev = 1 ∨ ev = 2 := by simpa [eachC] using hev
            omega
        have hel : (eachC b).length ≤ 2 := by unfold eachC; cases Nat.beq b 1 <;> simp
        refine ⟨l8, rfl, ⟨_, .inl (.inl h8)⟩, lcLists (K := K) ((moreC b z c).map fun c => c.map Int.ofNat) h8 (by rw [moreC_each]; simp only [List.length_map]) (by rw [List.length_map, List.length_map]; exact sz100k (by omega)) (fun _ => rfl) (fun i' x3 ns H9 R hx3 hns e9 r => ?_) fun D9 H9 qs nD9 e9 hD9 hat => ?_⟩
        · rw [List.getElem?_map, List.getElem?_map] at hx3
          rw [moreC_each, List.getElem?_map, List.getElem?_map] at hns
          obtain ⟨ev, hev, rfl⟩ : ∃ ev, (eachC b)[i']? = some ev ∧ x3 = V.int (ev : Int) := by
            cases h : (eachC b)[i']? with
            | none => rw [h] at hx3; cases hx3
            | some ev => rw [h] at hx3; exact ⟨ev, rfl, (Option.some.inj hx3).symm⟩
          rw [hev] at hns
          cases hns
          tm_at "s"
          refine s_mulI (mulL ⟨by omega, by omega⟩) ?_
          try dsimp only
          tm_at "s"
          refine s_new (Nat.le_of_lt (small1000 (by simp))) fun lz Ha nlz ea hlz => ?_
          refine s_addL ((e9.trans ea) _ _ hcell8) hlz ?_ fun lw Hb nlw eb hlw => ?_
          · rw [List.length_map, List.length_map]
            exact Nat.le_trans (show c.length + 1 ≤ 100 by omega) (by decide +kernel)
          · refine r lw Hb (ea.free nlw) (ea.trans eb) ?_
            rw [hlw]
            simp [List.map_append]
        have hB9 := hl'.ex (e58.trans e9)
        have hM9 := LsN.ofAt hD9 hat
        obtain ⟨ys, hys, hyl⟩ : ∃ ys, H9 l' = some (.lst ys) ∧ ys.length = B.length := let ⟨ps, a1, a2, _⟩ := id hB9; ⟨_, a1, by rw [List.length_map]; exact a2⟩
        have hql : qs.length = (moreC b z c).length := by
          obtain ⟨ps, a1, a2, _⟩ := id hM9
          rw [hD9] at a1
          have := congrArg List.length (HO.lst.inj (Option.some.inj a1))
          simp only [List.length_map] at this
          omega
        have hml := moreC_len b z c
        try dsimp only
        tm_at "s"
        refine s_addL hys hD9 ?_ fun l10 H10 nl10 e10 h10 => ?_
        · rw [List.length_map]
          exact Nat.le_trans (show ys.length + qs.length ≤ 100 by omega) (by decide +kernel)
        exact ⟨_, _, l10, rfl, (e.trans (e35.trans (e58.trans e9))).free nl10, e5.trans (e58.trans (e9.trans e10)), hB9.app hM9 hys hD9 e10 h10⟩
      · rintro _ H5 ⟨v5, v6, l', rfl, nl', e5, hl'⟩
        rw [hxl, List.take_length] at hl'
        try dsimp only
        tm_at "s"
        exact ⟨_, _, _, _, l', rfl, nl', e.trans (e4.trans e5), hl'⟩
    · rintro _ H3 ⟨v3, v4, v5, v6, l, rfl, nl, e, hl⟩
      rw [List.length_map, List.length_map, List.take_length] at hl
      try dsimp only
      tm_at "s"
      exact k l H3 nl e hl
end
end K30
end
section
namespace L3
open PySem PySem.NumText PySem.Spec PyProof.Rows L2 LamX RZ
/-- the later one of two workers by its names' order: who is there from the beginning -/
def rA (o : Bool) (m : Nat) : Nat := match o with | true => 0 | false => m
def rB (o : Bool) (m : Nat) : Nat := match o with | true => m | false => 0
theorem neverN_at {ft ka kb sa sb lt u tick n : Nat} {cs : List (List Nat)} (h : neverN ft ka kb sa sb lt u tick cs n = true) {c : List Nat} (hc : c ∈ cs) {m : Nat} (hm : m < n) (o aF : Bool) : laterN ft ka kb sa sb lt u (sm c * tick * u) (rA o m) (rB o m) c aF = false := by
  have h1 := allL_at h c hc
  have h2 := allM_at h1 m hm
  try dsimp only at h2
  cases e1 : laterN ft ka kb sa sb lt u (sm c * tick * u) 0 m c true with
  | true => rw [e1] at h2; cases h2
  | false =>
    rw [e1] at h2
    try dsimp only at h2
    cases e2 : laterN ft ka kb sa sb lt u (sm c * tick * u) 0 m c false with
    | true => rw [e2] at h2; cases h2
    | false =>
      rw [e2] at h2
      try dsimp only at h2
      cases e3 : laterN ft ka kb sa sb lt u (sm c * tick * u) m 0 c true with
      | true => rw [e3] at h2; cases h2
      | false =>
        rw [e3] at h2
        try dsimp only at h2
        cases e4 : laterN ft ka kb sa sb lt u (sm c * tick * u) m 0 c false with
        | true => rw [e4] at h2; cases h2
        | false => cases o <;> cases aF <;> assumption
theorem metN_at {ft ka kb sa sb lt u tick n : Nat} {cs : List (List Nat)} (h : metN ft ka kb sa sb lt u tick cs n = true) : ∃ c ∈ cs, ∃ m, m < n ∧ ∃ o aF : Bool, laterN ft ka kb sa sb lt u (sm c * tick * u) (rA o m) (rB o m) c aF = true := by
  obtain ⟨c, hc, h1⟩ := anyL_at h
  obtain ⟨m, hm, h2⟩ := anyM_at h1
  try dsimp only at h2
  refine ⟨c, hc, m, hm, ?_⟩
  cases e1 : laterN ft ka kb sa sb lt u (sm c * tick * u) 0 m c true with
  | true => exact ⟨true, true, e1⟩
  | false =>
    rw [e1] at h2
    try dsimp only at h2
    cases e2 : laterN ft ka kb sa sb lt u (sm c * tick * u) 0 m c false with
    | true => exact ⟨true, false, e2⟩
    | false =>
      rw [e2] at h2
      try dsimp only at h2
      cases e3 : laterN ft ka kb sa sb lt u (sm c * tick * u) m 0 c true with
      | true => exact ⟨false, true, e3⟩
      | false =>
        rw [e3] at h2
        exact ⟨false, false, h2⟩
theorem okN_at {sa sb tick most fee l u : Nat} {sz : List Nat} (h : okN sa sb tick most fee l u sz = true) :
    (∀ c ∈ allC most sz, ∀ m, m < spanN sz most fee tick + 1 → ∀ o aF : Bool, laterN (fee * tick) (tick / sa) (tick / sb) sa sb (l * tick) u (sm c * tick * u) (rA o m) (rB o m) c aF = false) ∧
    ∃ c ∈ allC most sz, ∃ m, m < spanN sz most fee tick + 1 ∧ ∃ o aF : Bool, laterN (fee * tick) (tick / sa) (tick / sb) sa sb ((l * big - 1) * tick) (u * big) (sm c * tick * (u * big)) (rA o m) (rB o m) c aF = true := by
  unfold okN at h
  cases hn : neverN (fee * tick) (tick / sa) (tick / sb) sa sb (l * tick) u tick (allC most sz) (spanN sz most fee tick + 1) with
  | false => rw [hn] at h; cases h
  | true =>
    rw [hn] at h
    exact ⟨fun c hc m hm o aF => neverN_at hn hc hm o aF, metN_at h⟩
def spWorstT : Sp := fun vs H Q _ => ∃ p ls sa sb tk b fee sz l u, vs = [.ref p, .ref ls, .int ((l : Nat) : Int), .int ((u : Nat) : Int)] ∧ Plan H p (pairW sa sb) 1 ((b : Nat) : Int) ((fee : Nat) : Int) ∧ Crew2 sa sb tk ∧ (b = 1 ∨ b = 2) ∧ fee ≤ 2 ∧ H ls = some (.lst ((sz.map Int.ofNat).map V.int)) ∧ sz ≠ [] ∧ sz.length ≤ 3 ∧ (∀ s ∈ sz, s ≤ 3) ∧ 1 ≤ l ∧ l ≤ 10 ^ 10 ∧ u ≤ 10 ^ 10 ∧ okN sa sb tk b fee l u sz = true ∧ ∀ H', Ex H H' → Q (.bl true) H'
end L3
end
section
namespace L3
open PySem PySem.NumText PySem.Spec PyProof.Rows L2 LamX RZ
def kO (k : Nat) : Bool := Nat.beq k 0
def aO (k j : Nat) : Bool := match Nat.beq j 0 with | true => kO k | false => !kO k
theorem wit_code {A : List (List Nat)} {S : Nat} {p : List Nat → Nat → Bool → Bool → Bool} (h : ∃ c ∈ A, ∃ m, m < S ∧ ∃ o aF : Bool, p c m o aF = true) :
    ∃ w0, w0 < A.length * S * 4 ∧ ∀ i m k j c, A[i]? = some c → m < S → k < 2 → j < 2 → ((i * S + m) * 2 + k) * 2 + j = w0 → p c m (kO k) (aO k j) = true := by
  obtain ⟨c0, hc0, m0, hm0, o, aF, hp⟩ := h
  obtain ⟨i0, hi0⟩ := List.getElem?_of_mem hc0
  obtain ⟨k0, hk0, hok⟩ : ∃ k, k < 2 ∧ kO k = o := by
    cases o
    · exact ⟨1, by decide, rfl⟩
    · exact ⟨0, by decide, rfl⟩
  obtain ⟨j0, hj0, hoj⟩ : ∃ j, j < 2 ∧ aO k0 j = aF := by
    cases o <;> cases aF
    · exact ⟨0, by decide, hok⟩
    · exact ⟨1, by decide, by show (!kO k0) = true; rw [hok]; rfl⟩
    · exact ⟨1, by decide, by show (!kO k0) = false; rw [hok]; rfl⟩
    · exact ⟨0, by decide, hok⟩
  have hl := (List.getElem?_eq_some_iff.mp hi0).1
  refine ⟨((i0 * S + m0) * 2 + k0) * 2 + j0, ?_, fun i m k j c hc hm hk hj e => ?_⟩
  · have h1 : (i0 + 1) * S ≤ A.length * S := Nat.mul_le_mul_right S hl
    rw [Nat.succ_mul] at h1
    omega
  · have ej : j = j0 := by omega
    have ek : k = k0 := by omega
    have em : i * S + m = i0 * S + m0 := by omega
    have ei : i = i0 := by
      rcases Nat.lt_trichotomy i i0 with z | z | z
      · have h1 : (i + 1) * S ≤ i0 * S := Nat.mul_le_mul_right S z
        rw [Nat.succ_mul] at h1
        omega
      · exact z
      · have h1 : (i0 + 1) * S ≤ i * S := Nat.mul_le_mul_right S z
        rw [Nat.succ_mul] at h1
        omega
    subst ei ej ek
    rw [hi0] at hc
    cases hc
    obtain rfl : m = m0 := by omega
    rw [hok, hoj]
    exact hp
theorem allC_fits {b : Nat} (hb : b ≤ 2) : ∀ (sz : List Nat) (acc : List (List Nat)) (n : Nat), (∀ s ∈ sz, s ≤ 3) → (∀ c ∈ acc, c.length = n ∧ ∀ x ∈ c, x ≤ 6) → ∀ c ∈ sz.foldl (fun l s => addC b s l) acc, c.length = n + sz.length ∧ ∀ x ∈ c, x ≤ 6
  | [], acc, n, _, h => h
  | s :: r, acc, n, hs, h => fun c hc => by
    have h3 := hs s (List.mem_cons_self ..)
    have h2 : s * b ≤ 3 * 2 := Nat.mul_le_mul h3 hb
    have := allC_fits hb r (addC b s acc) (n + 1) (fun x hx => hs x (List.mem_cons_of_mem _ hx)) (fun d hd => by
      rw [addC_eq] at hd
      obtain ⟨d0, hd0, hdm⟩ := List.mem_flatMap.mp hd
      obtain ⟨a1, a2⟩ := h d0 hd0
      refine ⟨by rw [moreC_mem hdm, a1], fun x hx => ?_⟩
      unfold moreC at hdm
      cases hq : Nat.beq b 1 with
      | true =>
        rw [hq] at hdm
        have hdm : d = d0 ++ [s] := by simpa using hdm
        rw [hdm] at hx
        rcases List.mem_append.mp hx with hx | hx
        · exact a2 x hx
        · rw [List.mem_singleton.mp hx]; omega
      | false =>
        rw [hq] at hdm
        have hdm : d = d0 ++ [s] ∨ d = d0 ++ [s * b] := by simpa using hdm
        rcases hdm with rfl | rfl <;> rcases List.mem_append.mp hx with hx | hx
        · exact a2 x hx
        · rw [List.mem_singleton.mp hx]; omega
        · exact a2 x hx
        · rw [List.mem_singleton.mp hx]; omega) c hc
    rw [List.length_cons]
    exact ⟨by rw [this.1]; omega, this.2⟩
theorem allC_ok {b : Nat} (hb : b ≤ 2) {sz : List Nat} (hs : ∀ s ∈ sz, s ≤ 3) {c : List Nat} (hc : c ∈ allC b sz) : c.length = sz.length ∧ ∀ x ∈ c, x ≤ 6 := by
  have := allC_fits hb sz [[]] 0 hs (fun c hc => by rw [List.mem_singleton.mp hc]; exact ⟨rfl, fun x hx => nomatch hx⟩) c hc
  exact ⟨by rw [this.1]; omega, this.2⟩
theorem sm_le3 {sz : List Nat} (hs : ∀ s ∈ sz, s ≤ 3) : sm sz ≤ sz.length * 3 := by
  induction sz with
  | nil => exact Nat.le_refl _
  | cons a r ih =>
    have h1 := hs a (List.mem_cons_self ..)
    have h2 := ih fun x hx => hs x (List.mem_cons_of_mem _ hx)
    show a + sm r ≤ _
    rw [List.length_cons]
    omega
theorem two_rAB (o : Bool) (m : Nat) : two o ((rA o m : Nat) : Int) ((rB o m : Nat) : Int) = [(nmOf o, 0), (nmOf !o, (m : Int))] := by cases o <;> rfl
theorem nmOf_ord (o : Bool) : ord2 o = [nmOf o, nmOf !o] := by cases o <;> rfl
theorem ord_rev (o : Bool) : ord2 (!o) = [nmOf !o, nmOf o] := by cases o <;> rfl
theorem rA_le (o : Bool) (m : Nat) : rA o m ≤ m ∧ rB o m ≤ m := by cases o <;> exact ⟨by first | exact Nat.zero_le _ | exact Nat.le_refl _, by first | exact Nat.zero_le _ | exact Nat.le_refl _⟩
section
variable {σ : L2.St} {H : Hp} {Q : VK}
/-- {k1: v1, k2: v2}, keys and values read where they stand -/
theorem s_disp2k {tk1 tv1 tk2 tv2 : TE} {k1 k2 : Key} {v1 v2 : V} (hne : k1 ≠ k2) (hk1 : ∀ H' (R : VK), Ex H H' → R (kV k1) H' → tk1 σ H' R) (hv1 : ∀ H' (R : VK), Ex H H' → R v1 H' → tv1 σ H' R) (hk2 : ∀ H' (R : VK), Ex H H' → R (kV k2) H' → tk2 σ H' R) (hv2 : ∀ H' (R : VK), Ex H H' → R v2 H' → tv2 σ H' R)
    (h : ∀ p H2, H p = none → Ex H H2 → H2 p = some (.dK [(k1, v1), (k2, v2)]) → Q (.ref p) H2) : tDisp [(tk1, tv1), (tk2, tv2)] σ H Q := fun p hp => by
  have e0 : Ex H (upd H p (.dK [])) := ex_new hp
  refine hk1 _ _ e0 (hv1 _ _ e0 (hk2 _ _ e0 (hv2 _ _ e0 ?_)))
  refine ⟨upd_same, [(k1, v1), (k2, v2)], rfl, (by show 2 ≤ 15; decide), ?_⟩
  rw [show mergeK [] [(k1, v1), (k2, v2)] = [(k1, v1), (k2, v2)] from by
    show putK (putK [] k1 v1) k2 v2 = _
    rw [putK_new (kvs := []) _ rfl, putK_new]
    · rfl
    · show valV [(k1, v1)] k2 = none
      rw [valV_neg hne]; rfl]
  refine h p _ hp (fun b o eb => ?_) upd_same
  have n := ne_of_none eb hp
  rw [upd_ne n]
  exact e0 _ _ eb
end
theorem nm_ne (o : Bool) : (Sum.inr (nmOf o) : Key) ≠ Sum.inr (nmOf !o) := by cases o <;> decide
end L3
end
section
namespace L3
open PySem PySem.NumText PySem.Spec PyProof.Rows L2 LamX RZ
def restL (total : Int) (sizes : List Int) : List Int := (List.range (sizes.length + 1)).map (restG total sizes)
theorem restL_len (total : Int) (sizes : List Int) : (restL total sizes).length = sizes.length + 1 := by unfold restL; rw [List.length_map, List.length_range]
theorem restL_at {total : Int} {sizes : List Int} {k : Nat} (h : k ≤ sizes.length) : (restL total sizes)[k]? = some (restG total sizes k) := by
  unfold restL; rw [List.getElem?_map, List.getElem?_range (by omega)]; rfl
theorem restG_drop (total : Int) (sizes : List Int) (k : Nat) : restG total sizes k = total - sizes.sum + (sizes.drop k).sum := by
  unfold restG
  have := sum_split sizes k
  omega
theorem GrOut.few {ℓ : Int → Int → Int} {total : Int} {most : Nat} {sizes rests : List Int} (g : GrOut ℓ total most sizes rests) (h : rests.length = sizes.length) : sizes.sum = total ∧ restsOf sizes ++ [0] = restL total sizes := by
  have e : sizes.sum = total := by rcases g.en with ⟨_, e⟩ | ⟨e, _⟩ <;> omega
  refine ⟨e, ?_⟩
  refine List.ext_getElem? fun i => ?_
  rcases Nat.lt_trichotomy i sizes.length with c | c | c
  · rw [List.getElem?_append_left (by rw [restsOf_len]; exact c), restsOf_get c, restL_at (Nat.le_of_lt c), restG_drop, e]
    congr 1
    omega
  · subst c
    rw [List.getElem?_append_right (by rw [restsOf_len]; exact Nat.le_refl _), restsOf_len, Nat.sub_self, restL_at (Nat.le_refl _), restG_all (Nat.le_refl _), e, Int.sub_self]
    rfl
  · rw [List.getElem?_eq_none (by rw [List.length_append, restsOf_len, List.length_singleton]; omega), List.getElem?_eq_none (by rw [restL_len]; omega)]
end L3
end
section
namespace L3
open PySem PySem.NumText PySem.Spec PyProof.Rows L2 LamX RZ
theorem s_fRg2 {σ : L2.St} {H : Hp} {g : TG} {tb : TS} {D : Ends} {tr : TA} (h : tr σ H fun ws H1 => ∃ i j : Int, ws = [.int i, .int j] ∧ (-(2 ^ 62) ≤ i ∧ i < 2 ^ 62 ∧ -(2 ^ 62) ≤ j ∧ j < 2 ^ 62) ∧ ForJ (Itr i (j - i).toNat) g tb D σ H1) : tFor (iRng2 tr) g tb D σ H := h
theorem LsAt.at_ {H : Hp} : ∀ {qs : List Addr} {nss : List (List Int)} {i : Nat} {q : Addr} {ns : List Int}, LsAt H qs nss → qs[i]? = some q → nss[i]? = some ns → H q = some (.lst (ns.map V.int))
  | _ :: _, _ :: _, 0, _, _, ⟨a, _⟩, h1, h2 => by cases h1; cases h2; exact a
  | _ :: _, _ :: _, i + 1, _, _, ⟨_, b⟩, h1, h2 => LsAt.at_ b h1 h2
  | [], [], _, _, _, _, h1, _ => by cases h1
  | [], _ :: _, _, _, _, h, _, _ => h.elim
  | _ :: _, [], _, _, _, h, _, _ => h.elim
theorem LsAt.ex {H H' : Hp} {qs : List Addr} {nss : List (List Int)} (h : LsAt H qs nss) (e : Ex H H') : LsAt H' qs nss := h.imp fun q _ n hn => e _ _ hn
structure AllC (t : Nat) (nss : List (List Int)) : Prop where
  mem : ∀ m, m ∈ nss ↔ (∀ n ∈ m, 1 ≤ n) ∧ m.sum = (t : Int)
  len : nss.length ≤ 2 ^ t
structure PartC (t i : Nat) (nss : List (List Int)) : Prop where
  mem : ∀ m, m ∈ nss ↔ ∃ (s : Int) (r : List Int), m = s :: r ∧ 1 ≤ s ∧ s ≤ (i : Int) ∧ (∀ n ∈ r, 1 ≤ n) ∧ r.sum = (t : Int) - s
  len : nss.length + 2 ^ (t - i) ≤ 2 ^ t
theorem PartC.nil (t : Nat) : PartC t 0 [] := ⟨fun m => by
  constructor
  · intro h; cases h
  · rintro ⟨s, r, _, h1, h2, _⟩; omega, by simp⟩
theorem PartC.next {t i : Nat} {nss mss : List (List Int)} (h : PartC t i nss) (hi : i < t) (ha : AllC (t - (i + 1)) mss) : PartC t (i + 1) (nss ++ mss.map (((i : Int) + 1) :: ·)) := ⟨fun m => by
  rw [List.mem_append, h.mem]
  constructor
  · rintro (⟨s, r, e, h1, h2, h3⟩ | h1)
    · exact ⟨s, r, e, h1, by omega, h3⟩
    · obtain ⟨r, hr, rfl⟩ := List.mem_map.mp h1
      obtain ⟨h2, h3⟩ := (ha.mem r).mp hr
      exact ⟨(i : Int) + 1, r, rfl, by omega, by omega, h2, by rw [h3]; omega⟩
  · rintro ⟨s, r, e, h1, h2, h3, h4⟩
    by_cases c : s ≤ (i : Int)
    · exact .inl ⟨s, r, e, h1, c, h3, h4⟩
    · have : s = (i : Int) + 1 := by omega
      subst this
      exact .inr (List.mem_map.mpr ⟨r, (ha.mem r).mpr ⟨h3, by rw [h4]; omega⟩, e.symm⟩), by
  have h1 := h.len
  have h2 := ha.len
  rw [List.length_append, List.length_map]
  have e : 2 ^ (t - i) = 2 ^ (t - (i + 1)) + 2 ^ (t - (i + 1)) := by
    rw [show t - i = (t - (i + 1)) + 1 by omega, Nat.pow_succ]; omega
  omega⟩
theorem PartC.done {t : Nat} {nss : List (List Int)} (h : PartC t t nss) (ht : 0 < t) : AllC t nss := ⟨fun m => by
  rw [h.mem]
  constructor
  · rintro ⟨s, r, rfl, h1, h2, h3, h4⟩
    refine ⟨fun n hn => ?_, by rw [List.sum_cons, h4]; omega⟩
    rcases List.mem_cons.mp hn with rfl | hn
    · exact h1
    · exact h3 n hn
  · rintro ⟨h1, h2⟩
    cases m with
    | nil => rw [List.sum_nil] at h2; omega
    | cons s r =>
      rw [List.sum_cons] at h2
      have h3 : ∀ n ∈ r, 1 ≤ n := fun n hn => h1 n (List.mem_cons_of_mem _ hn)
      have h4 := sum_ge_len h3
      exact ⟨s, r, rfl, h1 s List.mem_cons_self, by omega, h3, by omega⟩, by have := h.len; rw [Nat.sub_self] at this; omega⟩
def WithinC (ℓ : Int → Int → Int) (t : Int) (m : List Int) : Prop := ∀ (i : Nat) s, m[i]? = some s → s ≤ ℓ (t - (m.take i).sum) (i : Int)
theorem GrAt.within {ℓ : Int → Int → Int} {total : Int} {sizes rests : List Int} (g : GrAt ℓ total sizes rests) : WithinC ℓ total sizes := fun i s h => by
  rw [← (g.at_ i s h).2.2]; exact Int.le_refl _
end L3
end
section
set_option exponentiation.threshold 9000
local macro_rules | `(tactic| tm_at "s1") => `(tactic| first
  | with_reducible first
    | refine L3.s_seq ?_ | refine L3.s_asg ?_ | refine L3.s_op ?_ | refine L3.s_c ?_ | refine L3.s_cb ?_ | refine L3.s_cons ?_ | refine L3.s_nil ?_ | refine L3.s_test ?_ | refine L3.s_bl ?_
    | refine L3.s_I0 ?_ | refine L3.s_and ?_ | refine L3.s_or ?_ | refine L3.s_not ?_ | refine L3.s_if ?_ | refine L3.s_next ?_ | refine L3.s_ret ?_ | refine L3.s_retN ?_ | refine L3.s_asgS ?_ | refine L3.s_drop ?_
    | refine L3.s_un ?_ | refine L3.s_U ?_ | refine L3.s_int ?_ | refine L3.s_intB ?_ | refine L3.s_abs ?_ | refine L3.s_andV ?_ | refine L3.s_orV ?_ | refine L3.s_notV ?_ | refine L3.s_ifE ?_ | refine L3.s_call ?_ | refine L3.s_lst ?_ | refine L3.s_tup ?_ | refine L3.s_tB ?_
    | refine L3.s_addI ?_ | refine L3.s_inS ?_ | refine L3.s_ninS ?_ | refine L3.s_slice ?_ | refine L3.s_part ?_ | refine L3.s_partI ?_ | refine L3.s_nopart ?_ | refine L3.s_cI ?_ | refine L3.s_cB ?_ | refine L3.s_chain ?_ | refine L3.s_bm ?_ | refine L3.s_lcS ?_ | refine L3.s_lcR ?_ | refine L3.s_strE ?_
    | refine L2.iteT ?_ | refine L2.iteF ?_ | refine L3.iteNF ?_ | refine L3.iteNT ?_
    | refine L3.s_eqI ?_ | refine L3.s_neI ?_ | refine L3.s_eqS ?_ | refine L3.s_neS ?_
    | refine L3.s_pair ?_ | refine L3.s_pair2 ?_ | refine L3.s_fld ?_ | refine L3.s_make ?_ | refine L3.s_m1 ?_ | refine L3.s_isstr ?_
    | refine L3.s_xfV ?_ | refine L3.s_lstN ?_ | refine L3.s_callF ?_ | refine L3.s_lcL ?_ | refine L3.s_par3 ?_ | refine L3.s_trip ?_ | refine L3.s_asgT' ?_ | refine L3.s_gC ?_ | refine L3.s_gN ?_ | refine L3.s_fldG ?_ | refine L3.s_raise1 ?_ | refine L3.s_raise2 ?_ | refine L3.s_star ?_ | refine L3.s_mkCR ?_ | refine L3.s_lcZ ?_ | refine L3.s_forL ?_ | refine L3.s_forT ?_ | refine L3.s_gNm ?_ | refine L3.s_forE ?_ | refine L3.s_stC ?_ | refine L3.s_cmC ?_ | refine L3.s_forR1 ?_ | refine L3.s_lcTp ?_ | refine L3.s_forZ ?_ | refine L3.s_orT ?_ | refine L3.s_mt ?_ | refine L3.s_revT ?_ | refine L3.s_revL ?_ | refine L3.s_slOwn ?_ | refine L3.s_sl3 ?_ | refine L3.s_lcO ?_ | refine L3.s_stR ?_
    | refine L3.s_dcL ?_ | refine L3.s_dcT ?_ | refine L3.s_dget ?_ | refine L3.s_forET ?_ | refine L3.s_din ?_ | refine L3.s_dnin ?_ | refine L3.s_mkKV ?_
    | refine L3.s_isN ?_ | refine L3.s_isB ?_ | refine L3.s_nisN ?_ | refine L3.s_nisB ?_
  | ((with_reducible refine' L3.s_var ?e ?_); (case e => rfl))
  | ((with_reducible refine' L3.s_aug ?e ?_); (case e => rfl))
  | ((with_reducible refine' L3.s_pow ?c ?_); (case c => exact ⟨by decide, by decide, by decide⟩)))
local macro_rules | `(tactic| tm_at "s") => `(tactic| repeat tm_at "s1")
namespace K30
open PySem PySem.NumText PySem.Spec PyProof.Rows L2 L3 LamX RZ ClX
abbrev s__law_worst : Stmt := topS 90
theorem sc__law_worst : FnScope ["_law_plan", "_law_sizes_here", "_law_late_here", "_law_under_here", "_law_tick", "_law_is_met", "_law_span", "_law_costs", "_law_moment", "_law_names", "_law_ready", "_law_order"] ["_law_plan", "_law_sizes_here", "_law_late_here", "_law_under_here"] (defScope s__law_worst) := ⟨rfl, rfl, rfl, by decide +kernel, rfl, by decide +kernel, by decide +kernel⟩
section
variable {P : Program} {w : World} {K : PySem.W.Frag} {mg : Str → Option Value} {base : Heap}
theorem ok_worstT {f : Addr} {fd : FuncData} (F : Fun K "_law_worst" "_law_worst" s__law_worst f fd) (b_sum : mg "sum" = none) (b_len : mg "len" = none) (b_range : mg "range" = none) (c__law_common : Fn P w K mg base CX0 1 "_law_common" ["_law_plan"] spComT) (c__law_all_costs : Fn P w K mg base CX0 1 "_law_all_costs" ["_law_plan", "_law_sizes_here"] spAllC) (c__law_is_later : Fn P w K mg base CX0 3 "_law_is_later" ["_law_plan", "_law_ready", "_law_costs", "_law_order", "_law_late_here", "_law_under_here"] spLatT) :
    FnG P w K mg base CX0 4 f fd ["_law_plan", "_law_sizes_here", "_law_late_here", "_law_under_here"] spWorstT := by
  refine funG F sc__law_worst (fun vs H Q E h => ?_) (fun cd A' fr s H vs Q E hr hg h => ?_)
  · obtain ⟨p, ls, sa, sb, tk, b, fee, sz, l, u, rfl, _⟩ := h; rfl
  · obtain ⟨p, ls, sa, sb, tk, b, fee, sz, l, u, rfl, pl, hc, hb, hf, hls, hne, hl3, hs3, hl1, hlb, hub, ok, k⟩ := h
    refine ⟨_, (pss_cons (ps_par (by rfl) sc__law_worst.nd (i := 4) (j := 5) rfl rfl (by decide) rfl rfl (pa_cons (pe_f c__law_common hr hg pass0 (pa_cons (pv 0) pa_nil)) (pa_cons pe_bl pa_nil)) (by rfl))
      (pss_cons (ps_set (i := 6) sc__law_worst.nd rfl (Or.inl rfl) (pe_op opMul (pe_op opAdd (pe_op opMul (pe_callB (KX.sumT (K := K) rfl rfl) (by rfl) b_sum (by decide +kernel) (pa_cons (pv 1) pa_nil)) (pe_dget (hu_of hr) (pv 0) pe_str (fun _ _ => rfl))) (pe_op opMul (pe_callB (KX.callLen (K := K)) (by rfl) b_len (by decide +kernel) (pa_cons (pv 1) pa_nil)) (pe_dget (hu_of hr) (pv 0) pe_str (fun _ _ => rfl)))) (pv 4)))
      (pss_cons (ps_for (passes_of rfl) rfl (pi_list (pe_f c__law_all_costs hr hg pass0 (pa_cons (pv 0) (pa_cons (pv 1) pa_nil)))) (pg_name (i := 7) sc__law_worst.nd rfl (Or.inl rfl)) (pss_one (ps_for (passes_of rfl) rfl (pi_range2 (by rfl) b_range (pa_cons pe_int (pa_cons (pe_op opAdd (pv 6) pe_int) pa_nil))) (pg_name (i := 8) sc__law_worst.nd rfl (Or.inl rfl)) (pss_one (ps_for (passes_of rfl) rfl (pi_tup (pe_tup (pa_cons (pe_lst (pa_cons pe_str (pa_cons pe_str pa_nil))) (pa_cons (pe_lst (pa_cons pe_str (pa_cons pe_str pa_nil))) pa_nil)))) (pg_name (i := 9) sc__law_worst.nd rfl (Or.inl rfl)) (pss_cons (ps_set (i := 10) sc__law_worst.nd rfl (Or.inl rfl) (pe_disp (pps_cons (pe_ix (KX.ixU (K := K)) (pv 9) pe_int (fun _ _ => rfl)) pe_int (pps_cons (pe_ix (KX.ixU (K := K)) (pv 9) pe_int (fun _ _ => rfl)) (pv 8) pps_nil)) (by rfl) (by rfl) (fun z => by cases z) (by decide)))
      (pss_one (ps_for (passes_of rfl) rfl (pi_tup (pe_tup (pa_cons (pv 9) (pa_cons (KX.revL (K := K) rfl (pv 9)) pa_nil)))) (pg_name (i := 11) sc__law_worst.nd rfl (Or.inl rfl)) (pss_cons (ps_if (pt_val (pe_f c__law_is_later hr hg pass0 (pa_cons (pv 0) (pa_cons (pv 10) (pa_cons (pv 7) (pa_cons (pv 11) (pa_cons (pv 2) (pa_cons (pv 3) pa_nil)))))))) (pss_one (ps_ret pe_bl)) pss_nil)
      (pss_one (ps_if (pt_not (pt_val (pv 5))) (pss_one (ps_set (i := 5) sc__law_worst.nd rfl (Or.inl rfl) (pe_f c__law_is_later hr hg pass0 (pa_cons (pv 0) (pa_cons (pv 10) (pa_cons (pv 7) (pa_cons (pv 11) (pa_cons (pe_op op_sub (pe_op opMul (pv 2) (pe_op op_pow pe_int pe_int)) pe_int) (pa_cons (pe_op opMul (pv 3) (pe_op op_pow pe_int pe_int)) pa_nil))))))))) pss_nil)))))))))))
      (pss_one (ps_ret (pv 5)))))), ?_⟩
    obtain ⟨s1, s2, s3, s4, t1, t3⟩ := hc.small
    have hb2 : b ≤ 2 := by omega
    obtain ⟨okA, okB⟩ := okN_at ok
    obtain ⟨w0, hw0, hwit⟩ := wit_code (p := fun c m o aF => laterN (fee * tk) (tk / sa) (tk / sb) sa sb ((l * big - 1) * tk) (u * big) (sm c * tk * (u * big)) (rA o m) (rB o m) c aF) okB
    obtain ⟨ds, hp, hds⟩ := id pl
    have hsm := sm_le3 hs3
    have hsb : sm sz * b ≤ 9 * 2 := Nat.mul_le_mul (by omega) hb2
    have hlf : sz.length * fee ≤ 3 * 2 := Nat.mul_le_mul hl3 hf
    have hsp : spanN sz b fee tk ≤ 24 * 3 := Nat.mul_le_mul (by omega) t3
    tm_at "s"
    refine ⟨p, sa, sb, tk, _, _, _, rfl, pl, hc, fun H1 e1 => ?_⟩
    try dsimp only
    tm_at "s"
    refine ⟨ls, sz.map Int.ofNat, rfl, .inl (.inl (e1 _ _ hls)), ?_⟩
    rw [sm_sum]
    try dsimp only
    tm_at "s"
    refine s_dgS (.inl (e1 _ _ hp)) rfl ?_
    try dsimp only
    tm_at "s"
    refine s_mulI (mulL ⟨by omega, by omega⟩) ?_
    try dsimp only
    tm_at "s"
    refine s_lenL (e1 _ _ hls) ?_
    rw [List.length_map, List.length_map]
    try dsimp only
    tm_at "s"
    refine s_dgS (.inl (e1 _ _ hp)) rfl ?_
    try dsimp only
    tm_at "s"
    refine s_mulI (mulL ⟨by omega, by omega⟩) ?_
    try dsimp only
    tm_at "s"
    refine s_mulI (mulL ?_) ?_
    · rw [← Int.natCast_mul, ← Int.natCast_mul, ← Int.natCast_add]
      constructor <;> omega
    rw [show (((sm sz : Nat) : Int) * (b : Int) + ((sz.length : Nat) : Int) * (fee : Int)) * (tk : Int) = ((spanN sz b fee tk : Nat) : Int) by unfold spanN; rw [Int.natCast_mul, Int.natCast_add, Int.natCast_mul, Int.natCast_mul]]
    try dsimp only
    tm_at "s"
    refine ⟨p, ls, sa, sb, tk, b, fee, sz, rfl, pl.ex e1, hc, hb, e1 _ _ hls, hl3, hs3, fun D H2 nD e2 hD => ?_⟩
    have e02 := e1.trans e2
    obtain ⟨xs, hxs, hxl⟩ : ∃ xs, H2 D = some (.lst xs) ∧ xs.length = (allC b sz).length := by
      obtain ⟨ps, a1, a2, a3⟩ := id hD
      exact ⟨_, a1, by rw [List.length_map]; exact a2⟩
    try dsimp only
    tm_at "s"
    generalize hS : spanN sz b fee tk + 1 = S at okA hw0 hwit
    refine s_fL hxs (fun i σ H' => ∃ (f : Bool) (v7 v8 v9 v10 v11 : Option V), σ = [some (.ref p), some (.ref ls), some (.int (l : Int)), some (.int (u : Int)), some (.int (tk : Int)), some (.bl f), some (.int ((spanN sz b fee tk : Nat) : Int)), v7, v8, v9, v10, v11] ∧ Ex H2 H' ∧ (w0 < i * S * 4 → f = true)) ⟨false, _, _, _, _, _, rfl, Ex.refl H2, fun z => by omega⟩ (fun i σ H' ⟨_, _, _, _, _, _, _, e, _⟩ => e _ _ hxs) ?_ ?_
    · rintro i x _ H3 hx ⟨f, v7, v8, v9, v10, v11, rfl, e3, hw⟩
      obtain ⟨pc, c, rfl, hcA, hcell⟩ := hD.at hxs hx
      obtain ⟨hcl, hc6⟩ := allC_ok hb2 hs3 (List.mem_of_getElem? hcA)
      refine s_gNm ?_
      try dsimp only
      tm_at "s"
      refine s_fRg2 ?_
      try dsimp only
      tm_at "s"
      refine ⟨0, ((spanN sz b fee tk : Nat) : Int) + 1, rfl, ⟨by decide, by decide, by omega, by omega⟩, ?_⟩
      rw [show ((((spanN sz b fee tk : Nat) : Int) + 1 - 0).toNat : Nat) = S by omega]
      refine forRg (n := S) (fun m σ H' => ∃ (f : Bool) (v8 v9 v10 v11 : Option V), σ = [some (.ref p), some (.ref ls), some (.int (l : Int)), some (.int (u : Int)), some (.int (tk : Int)), some (.bl f), some (.int ((spanN sz b fee tk : Nat) : Int)), some (.ref pc), v8, v9, v10, v11] ∧ Ex H2 H' ∧ (w0 < (i * S + m) * 4 → f = true)) ⟨f, _, _, _, _, rfl, e3, fun z => hw (by omega)⟩ ?_ ?_
      · rintro m _ H4 hm ⟨f, v8, v9, v10, v11, rfl, e4, hw⟩
        refine s_gNm ?_
        rw [show (0 : Int) + (m : Int) = (m : Int) by omega]
        try dsimp only
        tm_at "s"
        refine s_new (Nat.le_of_lt (small1000 (by simp))) fun l1 H5 nl1 e5 h1 => ?_
        try dsimp only
        tm_at "s"
        refine s_new (Nat.le_of_lt (small1000 (by simp))) fun l2 H6 nl2 e6 h2 => ?_
        try dsimp only
        tm_at "s"
        refine s_new (Nat.le_of_lt (small1000 (by simp))) fun tt H7 ntt e7 htt => ?_
        have e47 := e5.trans (e6.trans e7)
        have h1 := e7 _ _ (e6 _ _ h1)
        have h2 := e7 _ _ h2
        try dsimp only
        tm_at "s"
        refine s_fT htt (fun kk σ H' => ∃ (f : Bool) (v9 v10 v11 : Option V), σ = [some (.ref p), some (.ref ls), some (.int (l : Int)), some (.int (u : Int)), some (.int (tk : Int)), some (.bl f), some (.int ((spanN sz b fee tk : Nat) : Int)), some (.ref pc), some (.int (m : Int)), v9, v10, v11] ∧ Ex H7 H' ∧ (w0 < ((i * S + m) * 2 + kk) * 2 → f = true)) ⟨f, _, _, _, rfl, Ex.refl H7, fun z => hw (by omega)⟩ (fun i σ H' ⟨_, _, _, _, _, e, _⟩ => e _ _ htt) ?_ ?_
        · rintro kk x _ H8 hx ⟨f, v9, v10, v11, rfl, e8, hw⟩
          obtain ⟨ln, hkk, rfl, hln⟩ : ∃ ln, kk < 2 ∧ x = V.ref ln ∧ H7 ln = some (.lst ((ord2 (kO kk)).map V.str)) := by
            match kk, hx with
            | 0, hx => cases hx; exact ⟨l1, by decide, rfl, h1⟩
            | 1, hx => cases hx; exact ⟨l2, by decide, rfl, h2⟩
            | kk + 2, hx => simp at hx
          generalize ho : kO kk = o at hln
          refine s_gNm ?_
          try dsimp only
          tm_at "s"
          have hln8 := e8 _ _ hln
          rw [nmOf_ord] at hln8
          refine s_disp2k (k1 := .inr (nmOf o)) (k2 := .inr (nmOf !o)) (v1 := .int 0) (v2 := .int (m : Int)) (nm_ne o) (fun _ _ e r => ?_) (fun _ _ e r => by tm_at "s"; exact r) (fun _ _ e r => ?_) (fun _ _ e r => by tm_at "s"; exact r) fun d H9 nd e9 hd => ?_
          · tm_at "s"
            exact s_iL (v := .str (nmOf o)) (e _ _ hln8) rfl r
          · tm_at "s"
            exact s_iL (v := .str (nmOf !o)) (e _ _ hln8) rfl r
          have hln9 := e9 _ _ hln8
          have hd9 : H9 d = some (.dK ((two o ((rA o m : Nat) : Int) ((rB o m : Nat) : Int)).map wI)) := by rw [two_rAB]; exact hd
          try dsimp only
          tm_at "s"
          refine ⟨ln, _, rfl, .inl (.inl hln9), fun lr nlr => ?_⟩
          have hlr : (upd H9 lr (.lst (([nmOf o, nmOf !o].map V.str).reverse))) lr = some (.lst ((ord2 !o).map V.str)) := by rw [upd_same, ord_rev]; rfl
          have e10 : Ex H9 (upd H9 lr (.lst (([nmOf o, nmOf !o].map V.str).reverse))) := ex_new nlr
          generalize upd H9 lr (.lst (([nmOf o, nmOf !o].map V.str).reverse)) = H10 at e10 hlr ⊢
          have hln10 : H10 ln = some (.lst ((ord2 o).map V.str)) := by rw [nmOf_ord]; exact e10 _ _ hln9
          try dsimp only
          tm_at "s"
          refine s_new (Nat.le_of_lt (small1000 (by simp))) fun to H11 nto e11 hto => ?_
          have e811 := e9.trans (e10.trans e11)
          try dsimp only
          tm_at "s"
          refine s_fT hto (fun j σ H' => ∃ (f : Bool) (v11 : Option V), σ = [some (.ref p), some (.ref ls), some (.int (l : Int)), some (.int (u : Int)), some (.int (tk : Int)), some (.bl f), some (.int ((spanN sz b fee tk : Nat) : Int)), some (.ref pc), some (.int (m : Int)), some (.ref ln), some (.ref d), v11] ∧ Ex H11 H' ∧ (w0 < ((i * S + m) * 2 + kk) * 2 + j → f = true)) ⟨f, _, rfl, Ex.refl H11, fun z => hw (by omega)⟩ (fun i σ H' ⟨_, _, _, e, _⟩ => e _ _ hto) ?_ ?_
          · rintro j x _ H12 hx ⟨f, v11, rfl, e12, hw⟩
            obtain ⟨lo, hj, rfl, hlo⟩ : ∃ lo, j < 2 ∧ x = V.ref lo ∧ H11 lo = some (.lst ((ord2 (aO kk j)).map V.str)) := by
              match j, hx with
              | 0, hx => cases hx; exact ⟨ln, by decide, rfl, by rw [show aO kk 0 = o from ho]; exact e11 _ _ hln10⟩
              | 1, hx => cases hx; exact ⟨lr, by decide, rfl, by rw [show aO kk 1 = !o from congrArg (!·) ho]; exact e11 _ _ hlr⟩
              | j + 2, hx => simp at hx
            have hA := okA c (List.mem_of_getElem? hcA) m hm o (aO kk j)
            have hW : ((i * S + m) * 2 + kk) * 2 + j = w0 → laterN (fee * tk) (tk / sa) (tk / sb) sa sb ((l * big - 1) * tk) (u * big) (sm c * tk * (u * big)) (rA o m) (rB o m) c (aO kk j) = true := fun z => by
              have := hwit i m kk j c hcA hm hkk hj z
              rw [ho] at this
              exact this
            generalize aO kk j = aF at hlo hA hW
            obtain ⟨ra1, ra2⟩ := rA_le o m
            have eA := e02.trans (e4.trans (e47.trans (e8.trans (e811.trans e12))))
            have hcN : c ≠ [] := fun z => hne (List.length_eq_zero_iff.mp (by rw [← hcl, z]; rfl))
            have eC := e4.trans (e47.trans (e8.trans (e811.trans e12)))
            refine s_gNm ?_
            try dsimp only
            tm_at "s"
            have hd12 := e12 _ _ (e11 _ _ (e10 _ _ hd9))
            refine ⟨p, d, pc, lo, sa, sb, tk, _, _, fee, o, rA o m, rB o m, c, aF, l, u, rfl, pl.ex eA, hc, hd12, eC _ _ hcell, hcN, by omega, fun x hx => Nat.le_trans (hc6 x hx) (by decide), by omega, e12 _ _ hlo, by omega, by omega, Nat.le_trans hlb (by decide +kernel), Nat.le_trans hub (by decide +kernel), fun H13 e13 => ?_⟩
            rw [hA]
            try dsimp only
            tm_at "s"
            have x13 := e12.trans e13
            cases f with
            | true =>
              refine iteF ?_
              try dsimp only
              tm_at "s"
              exact ⟨true, _, rfl, x13, fun _ => rfl⟩
            | false =>
              refine iteT ?_
              try dsimp only
              tm_at "s"
              have hbg : (10 : Int) ^ Int.toNat 40 = ((big : Nat) : Int) := by decide +kernel
              have hb60 : big ≤ 10 ^ 40 := Nat.le_of_eq rfl
              have hb1 : 1 ≤ big := by decide +kernel
              have w40 : (10 : Nat) ^ 40 < 2 ^ 1000 := by decide +kernel
              have w10 : (10 : Nat) ^ 10 < 2 ^ 1000 := by decide +kernel
              rw [hbg]
              refine s_mulI (m1000 (by rw [Int.natAbs_natCast]; omega) (by rw [Int.natAbs_natCast]; omega)) ?_
              try dsimp only
              tm_at "s"
              rw [hbg]
              refine s_mulI (m1000 (by rw [Int.natAbs_natCast]; omega) (by rw [Int.natAbs_natCast]; omega)) ?_
              try dsimp only
              tm_at "s"
              have hlb1 : 1 ≤ l * big := Nat.mul_pos hl1 hb1
              have hlb2 : l * big ≤ 10 ^ 10 * 10 ^ 40 := Nat.mul_le_mul hlb hb60
              have hub2 : u * big ≤ 10 ^ 10 * 10 ^ 40 := Nat.mul_le_mul hub hb60
              have h5060 : (10 : Nat) ^ 10 * 10 ^ 40 ≤ 10 ^ 60 := by decide +kernel
              rw [show (l : Int) * (big : Int) - 1 = ((l * big - 1 : Nat) : Int) by rw [Int.natCast_sub hlb1, Int.natCast_mul]; rfl, ← Int.natCast_mul]
              generalize hL : l * big - 1 = lB at hW
              have hLB : lB ≤ 10 ^ 60 := by omega
              generalize hU : u * big = uB at hW hub2
              have hd13 := e13 _ _ hd12
              refine ⟨p, d, pc, lo, sa, sb, tk, _, _, fee, o, rA o m, rB o m, c, aF, lB, uB, rfl, pl.ex (eA.trans e13), hc, hd13, (eC.trans e13) _ _ hcell, hcN, by omega, fun x hx => Nat.le_trans (hc6 x hx) (by decide), by omega, e13 _ _ (e12 _ _ hlo), by omega, by omega, hLB, Nat.le_trans hub2 h5060, fun H14 e14 => ?_⟩
              try dsimp only
              tm_at "s"
              refine ⟨_, _, rfl, x13.trans e14, fun z => ?_⟩
              by_cases e : ((i * S + m) * 2 + kk) * 2 + j = w0
              · exact hW e
              · have := hw (by omega)
                cases this
          · rintro _ H12 ⟨f, v11, rfl, e12, hw⟩
            try dsimp only
            tm_at "s"
            exact ⟨f, _, _, _, rfl, e8.trans (e811.trans e12), fun z => hw (by simp only [List.length_cons, List.length_nil]; omega)⟩
        · rintro _ H8 ⟨f, v9, v10, v11, rfl, e8, hw⟩
          try dsimp only
          tm_at "s"
          exact ⟨f, _, _, _, _, rfl, e4.trans (e47.trans e8), fun z => hw (by simp only [List.length_cons, List.length_nil]; omega)⟩
      · rintro _ H4 ⟨f, v8, v9, v10, v11, rfl, e4, hw⟩
        try dsimp only
        tm_at "s"
        exact ⟨f, _, _, _, _, _, rfl, e4, fun z => hw (by rw [Nat.succ_mul] at z; exact z)⟩
    · rintro _ H3 ⟨f, v7, v8, v9, v10, v11, rfl, e3, hw⟩
      try dsimp only
      tm_at "s"
      have hf := hw (by rw [hxl]; exact hw0)
      subst hf
      exact k H3 (e02.trans e3)
end
end K30
end
section
namespace L3
open PySem PySem.NumText PySem.Spec PyProof.Rows L2 LamX RZ
def posCase (sa sb most fee : Nat) (sz : List Nat) : Bool :=
  (fun (L : Nat → Int × Int) => allM (fun i => match allM (fun j => decide (leQ (L j) (L i))) sz.length with
    | false => true
    | true => match L i with
      | (.ofNat l, .ofNat u) => Nat.ble 1 l && (Nat.ble l (10 ^ 10) && Nat.ble u (10 ^ 10))
      | _ => false) sz.length) (fun j => lateI [("a", (sa : Int)), ("b", (sb : Int))] 1 most fee (sz.map Int.ofNat) j)
def posAll (sa sb most : Nat) : Bool := allM (fun fee => allL (posCase sa sb most fee) sizes3) 3
theorem pos11_1 : posAll 1 1 1 = true := by decide +kernel
theorem pos12_1 : posAll 1 2 1 = true := by decide +kernel
theorem pos31_1 : posAll 3 1 1 = true := by decide +kernel
theorem pos22_1 : posAll 2 2 1 = true := by decide +kernel
theorem pos11_2 : posAll 1 1 2 = true := by decide +kernel
theorem pos12_2 : posAll 1 2 2 = true := by decide +kernel
theorem pos31_2 : posAll 3 1 2 = true := by decide +kernel
theorem pos22_2 : posAll 2 2 2 = true := by decide +kernel
theorem mem_sizes3 : ∀ (sz : List Nat), sz ≠ [] → sz.length ≤ 3 → (∀ s ∈ sz, 1 ≤ s ∧ s ≤ 3) → sz ∈ sizes3
  | [], h, _, _ => absurd rfl h
  | [a], _, _, h => by
    have := h a (by simp)
    have ha : a = 1 ∨ a = 2 ∨ a = 3 := by omega
    rcases ha with rfl | rfl | rfl <;> decide
  | [a, b], _, _, h => by
    have := h a (by simp)
    have := h b (by simp)
    have ha : a = 1 ∨ a = 2 ∨ a = 3 := by omega
    have hb : b = 1 ∨ b = 2 ∨ b = 3 := by omega
    rcases ha with rfl | rfl | rfl <;> rcases hb with rfl | rfl | rfl <;> decide
  | [a, b, c], _, _, h => by
    have := h a (by simp)
    have := h b (by simp)
    have := h c (by simp)
    have ha : a = 1 ∨ a = 2 ∨ a = 3 := by omega
    have hb : b = 1 ∨ b = 2 ∨ b = 3 := by omega
    have hc : c = 1 ∨ c = 2 ∨ c = 3 := by omega
    rcases ha with rfl | rfl | rfl <;> rcases hb with rfl | rfl | rfl <;> rcases hc with rfl | rfl | rfl <;> decide
  | _ :: _ :: _ :: _ :: _, _, h, _ => by simp only [List.length_cons] at h; omega
theorem allM_mk {p : Nat → Bool} : ∀ {n : Nat}, (∀ i, i < n → p i = true) → allM p n = true
  | 0, _ => rfl
  | n + 1, h => by
    unfold allM
    rw [h n (Nat.lt_succ_self n)]
    exact allM_mk fun i hi => h i (by omega)
def Crew4 (sa sb tk : Nat) : Prop := (sa, sb, tk) ∈ [(1, 1, 1), (1, 2, 2), (3, 1, 3), (2, 2, 2)]
theorem Crew4.two {sa sb tk : Nat} (h : Crew4 sa sb tk) : Crew2 sa sb tk := by
  unfold Crew4 at h
  unfold Crew2
  simp only [List.mem_cons, List.not_mem_nil, or_false, Prod.mk.injEq] at h ⊢
  omega
theorem srtW_pair (sa sb : Nat) : srtW (pairW sa sb) = pairW sa sb := by
  unfold pairW
  rfl
theorem case_at {sa sb tk b fee : Nat} {sz : List Nat} (hc : Crew4 sa sb tk) (hb : b = 1 ∨ b = 2) (hf : fee < 3) (hsz : sz ∈ sizes3) {i : Nat} (hi : i < sz.length)
    (hg : ∀ j, j < sz.length → leQ (lateI (pairW sa sb) 1 (b : Int) (fee : Int) (sz.map Int.ofNat) j) (lateI (pairW sa sb) 1 (b : Int) (fee : Int) (sz.map Int.ofNat) i)) :
    ∃ l u : Nat, lateI (pairW sa sb) 1 (b : Int) (fee : Int) (sz.map Int.ofNat) i = ((l : Int), (u : Int)) ∧ 1 ≤ l ∧ l ≤ 10 ^ 10 ∧ u ≤ 10 ^ 10 ∧ okN sa sb tk b fee l u sz = true := by
  have h12 : okAll sa sb tk b = true ∧ posAll sa sb b = true := by
    unfold Crew4 at hc
    simp only [List.mem_cons, List.not_mem_nil, or_false, Prod.mk.injEq] at hc
    rcases hc with ⟨rfl, rfl, rfl⟩ | ⟨rfl, rfl, rfl⟩ | ⟨rfl, rfl, rfl⟩ | ⟨rfl, rfl, rfl⟩ <;> rcases hb with rfl | rfl
    · exact ⟨all11_1, pos11_1⟩
    · exact ⟨all11_2, pos11_2⟩
    · exact ⟨all12_1, pos12_1⟩
    · exact ⟨all12_2, pos12_2⟩
    · exact ⟨all31_1, pos31_1⟩
    · exact ⟨all31_2, pos31_2⟩
    · exact ⟨all22_1, pos22_1⟩
    · exact ⟨all22_2, pos22_2⟩
  obtain ⟨h1, h2⟩ := h12
  have h1 := allM_at (allL_at (allM_at h1 fee hf) sz hsz) i hi
  have h2 := allM_at (allL_at (allM_at h2 fee hf) sz hsz) i hi
  have hall : allM (fun j => decide (leQ (lateI [("a", (sa : Int)), ("b", (sb : Int))] 1 b fee (sz.map Int.ofNat) j) (lateI [("a", (sa : Int)), ("b", (sb : Int))] 1 b fee (sz.map Int.ofNat) i))) sz.length = true := allM_mk fun j hj => decide_eq_true (hg j hj)
  try dsimp only at h1 h2
  rw [hall] at h1 h2
  try dsimp only at h1 h2
  change _ = _ at h1
  unfold pairW
  generalize lateI [("a", (sa : Int)), ("b", (sb : Int))] 1 b fee (sz.map Int.ofNat) i = L at h1 h2 ⊢
  obtain ⟨x, y⟩ := L
  match x, y, h1, h2 with
  | .ofNat l, .ofNat u, h1, h2 =>
    rw [Bool.and_eq_true, Bool.and_eq_true] at h2
    exact ⟨l, u, rfl, Nat.le_of_ble_eq_true h2.1, Nat.le_of_ble_eq_true h2.2.1, Nat.le_of_ble_eq_true h2.2.2, h1⟩
theorem nats_of : ∀ {ys : List V}, (∀ y ∈ ys, ∃ x : Nat, y = .int (x : Int) ∧ 1 ≤ x ∧ x ≤ 3) → ∃ ns : List Nat, ys = (ns.map Int.ofNat).map V.int ∧ ∀ n ∈ ns, 1 ≤ n ∧ n ≤ 3
  | [], _ => ⟨[], rfl, fun _ h => nomatch h⟩
  | y :: r, h => by
    obtain ⟨x, rfl, h1, h2⟩ := h y (List.mem_cons_self ..)
    obtain ⟨ns, rfl, h3⟩ := nats_of fun z hz => h z (List.mem_cons_of_mem _ hz)
    refine ⟨x :: ns, rfl, fun n hn => ?_⟩
    rcases List.mem_cons.mp hn with rfl | hn
    · exact ⟨h1, h2⟩
    · exact h3 n hn
def spRightT : Sp := fun vs H Q _ => ∃ pa n, vs = [.ref pa] ∧ Pen H pa n ∧ n + 20 < lim ∧ ∀ H' n', n' ≤ n + 7 → Pen H' pa n' → Q (.bl true) H'
end L3
end
section
local macro_rules | `(tactic| tm_at "s1") => `(tactic| first
  | with_reducible first
    | refine L3.s_seq ?_ | refine L3.s_asg ?_ | refine L3.s_op ?_ | refine L3.s_c ?_ | refine L3.s_cb ?_ | refine L3.s_cons ?_ | refine L3.s_nil ?_ | refine L3.s_test ?_ | refine L3.s_bl ?_
    | refine L3.s_I0 ?_ | refine L3.s_and ?_ | refine L3.s_or ?_ | refine L3.s_not ?_ | refine L3.s_if ?_ | refine L3.s_next ?_ | refine L3.s_ret ?_ | refine L3.s_retN ?_ | refine L3.s_asgS ?_ | refine L3.s_drop ?_
    | refine L3.s_un ?_ | refine L3.s_U ?_ | refine L3.s_int ?_ | refine L3.s_intB ?_ | refine L3.s_abs ?_ | refine L3.s_andV ?_ | refine L3.s_orV ?_ | refine L3.s_notV ?_ | refine L3.s_ifE ?_ | refine L3.s_call ?_ | refine L3.s_lst ?_ | refine L3.s_tup ?_ | refine L3.s_tB ?_
    | refine L3.s_addI ?_ | refine L3.s_inS ?_ | refine L3.s_ninS ?_ | refine L3.s_slice ?_ | refine L3.s_part ?_ | refine L3.s_partI ?_ | refine L3.s_nopart ?_ | refine L3.s_cI ?_ | refine L3.s_cB ?_ | refine L3.s_chain ?_ | refine L3.s_bm ?_ | refine L3.s_lcS ?_ | refine L3.s_lcR ?_ | refine L3.s_strE ?_
    | refine L2.iteT ?_ | refine L2.iteF ?_ | refine L3.iteNF ?_ | refine L3.iteNT ?_
    | refine L3.s_eqI ?_ | refine L3.s_neI ?_ | refine L3.s_eqS ?_ | refine L3.s_neS ?_
    | refine L3.s_pair ?_ | refine L3.s_pair2 ?_ | refine L3.s_fld ?_ | refine L3.s_make ?_ | refine L3.s_m1 ?_ | refine L3.s_isstr ?_
    | refine L3.s_xfV ?_ | refine L3.s_lstN ?_ | refine L3.s_callF ?_ | refine L3.s_lcL ?_ | refine L3.s_par3 ?_ | refine L3.s_trip ?_ | refine L3.s_asgT' ?_ | refine L3.s_gC ?_ | refine L3.s_gN ?_ | refine L3.s_fldG ?_ | refine L3.s_raise1 ?_ | refine L3.s_raise2 ?_ | refine L3.s_star ?_ | refine L3.s_mkCR ?_ | refine L3.s_lcZ ?_ | refine L3.s_forL ?_ | refine L3.s_forT ?_ | refine L3.s_gNm ?_ | refine L3.s_forE ?_ | refine L3.s_stC ?_ | refine L3.s_cmC ?_ | refine L3.s_forR1 ?_ | refine L3.s_lcTp ?_ | refine L3.s_forZ ?_ | refine L3.s_orT ?_ | refine L3.s_mt ?_ | refine L3.s_revT ?_ | refine L3.s_revL ?_ | refine L3.s_slOwn ?_ | refine L3.s_sl3 ?_ | refine L3.s_lcO ?_ | refine L3.s_stR ?_
    | refine L3.s_dcL ?_ | refine L3.s_dcT ?_ | refine L3.s_dget ?_ | refine L3.s_forET ?_ | refine L3.s_din ?_ | refine L3.s_dnin ?_ | refine L3.s_mkKV ?_
    | refine L3.s_isN ?_ | refine L3.s_isB ?_ | refine L3.s_nisN ?_ | refine L3.s_nisB ?_
  | ((with_reducible refine' L3.s_var ?e ?_); (case e => rfl))
  | ((with_reducible refine' L3.s_aug ?e ?_); (case e => rfl))
  | ((with_reducible refine' L3.s_pow ?c ?_); (case c => exact ⟨by decide, by decide, by decide⟩)))
local macro_rules | `(tactic| tm_at "s") => `(tactic| repeat tm_at "s1")
namespace K30
open PySem PySem.Spec PyProof.Rows L2 L3 LamX RZ
abbrev s_Crew_of : Stmt := inClass (topS 56) 1
theorem sc_Crew_of : FnScope ["speeds"] ["speeds"] (defScope s_Crew_of) := ⟨rfl, rfl, rfl, by decide +kernel, rfl, by decide +kernel, by decide +kernel⟩
section
variable {P : Program} {w : World} {K : PySem.W.Frag} {mg : Str → Option Value} {base : Heap} {C CN CS CC CM CO CL aW : Addr}
theorem ok_crew_of {f : Addr} {fd : FuncData} (F : Fun K "of" "Crew.of" s_Crew_of f fd) (T : TxtW K mg C CN CS CC CM CO CL aW) (c_need_speeds : FnO P w K mg base (L2.CX P w) 5 "need_speeds" ["speeds", "names"] (spNeedSps K CN CS)) (m_Crew_kv : McKw P w K mg base (L2.CX P w) 7 "Crew" C "self" (spCrew C CC CM)) (e_BadCrew : Er1 P w K mg base "BadCrew" CC "part") :
    FnOk P w K mg base (L2.CX P w) 9 f fd ["speeds"] (spCrewOf C) := by
  refine funO F sc_Crew_of (fun vs H Q E h => ?_) (fun cd A' fr s H vs Q E hr h => ?_)
  · obtain ⟨d, ws, rfl, _⟩ := h; rfl
  · obtain ⟨d, ws, rfl, hd, ok, k⟩ := h
    refine ⟨_, (pss_cons (ps_if (pt_not (pt_val (pe_callB (KX.callIsi (K := K)) (by rfl) T.b_isinstance (by decide +kernel) (pa_cons (pv 0) (pa_cons (pe_bltn (v := .ty "dict") (u := .type "dict") (by rfl) T.b_dict (by decide +kernel) rfl) pa_nil))))) (pss_one (ps_raise1 e_BadCrew hr rfl (takes_of rfl rfl rfl rfl) (pa_cons pe_str pa_nil))) pss_nil)
      (pss_cons (ps_expr (pe_o c_need_speeds hr (passT (takes_of rfl rfl rfl rfl) (fun _ _ _ _ h => h)) (pa_cons (pv 0) (pa_cons (pe_callTy (callListDK rfl) (by rfl) T.b_list (by decide +kernel) (pa_cons (pv 0) pa_nil)) pa_nil))))
      (pss_one (ps_ret (pe_mkDS (i := 0) m_Crew_kv hr (passT (takes_of rfl rfl rfl rfl) (fun _ _ _ _ h => h)) rfl (Or.inl rfl)))))), ?_⟩
    tm_at "s"
    refine s_isiT (.x (.base (.dK hd))) (b := true) (kit_ty (by decide +kernel)) ?_
    tm_at "s"
    refine s_listDK hd fun l H1 nl e1 h1 => ?_
    have hk : (ws.map wI).map (fun kv => kV kv.1) = (ws.map (·.1)).map V.str := by rw [List.map_map, List.map_map]; rfl
    rw [hk] at h1
    try dsimp only
    tm_at "s"
    have hle := ok.le
    have sm : ∀ n ∈ ws.map (·.1), ∃ i, (n, i) ∈ ws := fun n hn => by
      obtain ⟨q, hq, e⟩ := List.mem_map.mp hn
      exact ⟨q.2, by rw [← e]; exact hq⟩
    refine ⟨d, l, ws.map wI, ws.map (·.1), rfl, e1 _ _ hd, h1, by rw [List.length_map]; omega, fun n hn => ?_, .inl ⟨fun n hn => ?_, fun n hn => ?_, fun H2 e2 => ?_⟩⟩
    · obtain ⟨i, hi⟩ := sm n hn
      have : n.length ≤ 8 := nameB_len (ok.nm _ hi)
      show n.length ≤ 100000
      omega
    · obtain ⟨i, hi⟩ := sm n hn
      exact ok.nm _ hi
    · obtain ⟨i, hi⟩ := sm n hn
      exact ⟨i, valV_mem ok.nd hi, ok.sp _ hi⟩
    tm_at "s"
    have ek : (ws.map fun p => (p.1, V.int p.2)).map kI = ws.map wI := by rw [List.map_map]; rfl
    refine ⟨d, ws.map fun p => (p.1, V.int p.2), rfl, by rw [ek]; exact e2 _ _ (e1 _ _ hd), fun p hp z => ?_, fun H3 e3 => s_mkCw ok fun q H' hq e4 cw => ?_⟩
    · obtain ⟨q, hq, e⟩ := List.mem_map.mp hp
      have hn := ok.nm q hq
      rw [show q.1 = "self" by rw [← z, ← e]] at hn
      exact absurd hn (by decide +kernel)
    · have e14 := (e1.trans e2).trans e3
      exact k q H' (e14.free hq) (e14.trans e4) cw
end
end K30
end
section
local macro_rules | `(tactic| tm_at "s1") => `(tactic| first
  | with_reducible first
    | refine L3.s_seq ?_ | refine L3.s_asg ?_ | refine L3.s_op ?_ | refine L3.s_c ?_ | refine L3.s_cb ?_ | refine L3.s_cons ?_ | refine L3.s_nil ?_ | refine L3.s_test ?_ | refine L3.s_bl ?_
    | refine L3.s_I0 ?_ | refine L3.s_and ?_ | refine L3.s_or ?_ | refine L3.s_not ?_ | refine L3.s_if ?_ | refine L3.s_next ?_ | refine L3.s_ret ?_ | refine L3.s_retN ?_ | refine L3.s_asgS ?_ | refine L3.s_drop ?_
    | refine L3.s_un ?_ | refine L3.s_U ?_ | refine L3.s_int ?_ | refine L3.s_intB ?_ | refine L3.s_abs ?_ | refine L3.s_andV ?_ | refine L3.s_orV ?_ | refine L3.s_notV ?_ | refine L3.s_ifE ?_ | refine L3.s_call ?_ | refine L3.s_lst ?_ | refine L3.s_tup ?_ | refine L3.s_tB ?_
    | refine L3.s_addI ?_ | refine L3.s_inS ?_ | refine L3.s_ninS ?_ | refine L3.s_slice ?_ | refine L3.s_part ?_ | refine L3.s_partI ?_ | refine L3.s_nopart ?_ | refine L3.s_cI ?_ | refine L3.s_cB ?_ | refine L3.s_chain ?_ | refine L3.s_bm ?_ | refine L3.s_lcS ?_ | refine L3.s_lcR ?_ | refine L3.s_strE ?_
    | refine L2.iteT ?_ | refine L2.iteF ?_ | refine L3.iteNF ?_ | refine L3.iteNT ?_
    | refine L3.s_eqI ?_ | refine L3.s_neI ?_ | refine L3.s_eqS ?_ | refine L3.s_neS ?_
    | refine L3.s_pair ?_ | refine L3.s_pair2 ?_ | refine L3.s_fld ?_ | refine L3.s_make ?_ | refine L3.s_m1 ?_ | refine L3.s_isstr ?_
    | refine L3.s_xfV ?_ | refine L3.s_lstN ?_ | refine L3.s_callF ?_ | refine L3.s_lcL ?_ | refine L3.s_par3 ?_ | refine L3.s_trip ?_ | refine L3.s_asgT' ?_ | refine L3.s_gC ?_ | refine L3.s_gN ?_ | refine L3.s_fldG ?_ | refine L3.s_raise1 ?_ | refine L3.s_raise2 ?_ | refine L3.s_star ?_ | refine L3.s_mkCR ?_ | refine L3.s_lcZ ?_ | refine L3.s_forL ?_ | refine L3.s_forT ?_ | refine L3.s_gNm ?_ | refine L3.s_forE ?_ | refine L3.s_stC ?_ | refine L3.s_cmC ?_ | refine L3.s_forR1 ?_ | refine L3.s_lcTp ?_ | refine L3.s_forZ ?_ | refine L3.s_orT ?_ | refine L3.s_mt ?_ | refine L3.s_revT ?_ | refine L3.s_revL ?_ | refine L3.s_slOwn ?_ | refine L3.s_sl3 ?_ | refine L3.s_lcO ?_ | refine L3.s_stR ?_
    | refine L3.s_dcL ?_ | refine L3.s_dcT ?_ | refine L3.s_dget ?_ | refine L3.s_forET ?_ | refine L3.s_din ?_ | refine L3.s_dnin ?_ | refine L3.s_mkKV ?_
    | refine L3.s_isN ?_ | refine L3.s_isB ?_ | refine L3.s_nisN ?_ | refine L3.s_nisB ?_
  | ((with_reducible refine' L3.s_var ?e ?_); (case e => rfl))
  | ((with_reducible refine' L3.s_aug ?e ?_); (case e => rfl))
  | ((with_reducible refine' L3.s_pow ?c ?_); (case c => exact ⟨by decide, by decide, by decide⟩)))
local macro_rules | `(tactic| tm_at "s") => `(tactic| repeat tm_at "s1")
namespace K30
open PySem PySem.NumText PySem.Spec PyProof.Rows L2 L3 LamX RZ ClX
structure TxtJ (K : PySem.W.Frag) (mg : Str → Option Value) (A : LaA) : Prop where
  b_int : mg "int" = none
  b_len : mg "len" = none
  b_sum : mg "sum" = none
  b_min : mg "min" = none
  b_max : mg "max" = none
  b_range : mg "range" = none
  b_enumerate : mg "enumerate" = none
  b_isinstance : mg "isinstance" = none
  b_tuple : mg "tuple" = none
  g_Crew : ∃ u, mg "Crew" = some u ∧ RelV (.ref A.cw) u
  g_Ratio : ∃ u, mg "Ratio" = some u ∧ RelV (.ref A.ra) u
  g_Chunks : ∃ u, mg "Chunks" = some u ∧ RelV (.ref A.ck) u
abbrev s__law_setting : Stmt := topS 77
theorem sc__law_setting : FnScope ["_law_plan"] ["_law_plan"] (defScope s__law_setting) := ⟨rfl, rfl, rfl, by decide +kernel, rfl, by decide +kernel, by decide +kernel⟩
section
variable {P : Program} {w : World} {K : PySem.W.Frag} {mg : Str → Option Value} {base : Heap} {A : LaA} {CW CQ CB CA CF CBR CC CM : Addr}
theorem ok_setP {f : Addr} {fd : FuncData} (F : Fun K "_law_setting" "_law_setting" s__law_setting f fd) (T : TxtJ K mg A) (st_of : StM P w K mg base (L2.CX P w) 9 A.cw "of" ["speeds"] (spCrewOf A.cw)) (m_Setting_4 : McO P w K mg base (L2.CX P w) 9 "Setting" A.st ["self", "crew", "least", "most", "fee"] (spSet K A.st A.cw A.ra A.cs CA CF) []) :
    FnG P w K mg base CX0 11 f fd ["_law_plan"] (spSetP A.st A.cw A.ra) := by
  refine funG F sc__law_setting (fun vs H Q E h => ?_) (fun cd A' fr s H vs Q E hr hg h => ?_)
  · obtain ⟨p, ws, a, b, f, rfl, _⟩ := h; rfl
  · obtain ⟨p, ws, a, b, f, rfl, pl, okw, oks, k⟩ := h
    refine ⟨_, (pss_one (ps_ret (pe_mko m_Setting_4 hr passF (pa_cons (pe_st st_of hr passF (C8.pe_gc (by rfl) T.g_Crew) (pa_cons (pe_dget (hu_of hr) (pv 0) pe_str (fun _ _ => rfl)) pa_nil)) (pa_cons (pe_dget (hu_of hr) (pv 0) pe_str (fun _ _ => rfl)) (pa_cons (pe_dget (hu_of hr) (pv 0) pe_str (fun _ _ => rfl)) (pa_cons (pe_dget (hu_of hr) (pv 0) pe_str (fun _ _ => rfl)) pa_nil))))))), ?_⟩
    tm_at "s"
    obtain ⟨d, hp, hd⟩ := id pl
    refine s_dgS (.inl hp) rfl ?_
    tm_at "s"
    refine ⟨d, ws, rfl, hd, okw, fun q H1 nq e1 cw => ?_⟩
    tm_at "s"
    refine s_dgS (.inl (e1 _ _ hp)) rfl ?_
    tm_at "s"
    refine s_dgS (.inl (e1 _ _ hp)) rfl ?_
    tm_at "s"
    refine s_dgS (.inl (e1 _ _ hp)) rfl ?_
    tm_at "s"
    refine s_mkSt cw okw.srt oks fun t H2 nt e2 st => ?_
    exact k t H2 (e1.trans e2) st
end
end K30
end
section
set_option exponentiation.threshold 9000
local macro_rules | `(tactic| tm_at "s1") => `(tactic| first
  | with_reducible first
    | refine L3.s_seq ?_ | refine L3.s_asg ?_ | refine L3.s_op ?_ | refine L3.s_c ?_ | refine L3.s_cb ?_ | refine L3.s_cons ?_ | refine L3.s_nil ?_ | refine L3.s_test ?_ | refine L3.s_bl ?_
    | refine L3.s_I0 ?_ | refine L3.s_and ?_ | refine L3.s_or ?_ | refine L3.s_not ?_ | refine L3.s_if ?_ | refine L3.s_next ?_ | refine L3.s_ret ?_ | refine L3.s_retN ?_ | refine L3.s_asgS ?_ | refine L3.s_drop ?_
    | refine L3.s_un ?_ | refine L3.s_U ?_ | refine L3.s_int ?_ | refine L3.s_intB ?_ | refine L3.s_abs ?_ | refine L3.s_andV ?_ | refine L3.s_orV ?_ | refine L3.s_notV ?_ | refine L3.s_ifE ?_ | refine L3.s_call ?_ | refine L3.s_lst ?_ | refine L3.s_tup ?_ | refine L3.s_tB ?_
    | refine L3.s_addI ?_ | refine L3.s_inS ?_ | refine L3.s_ninS ?_ | refine L3.s_slice ?_ | refine L3.s_part ?_ | refine L3.s_partI ?_ | refine L3.s_nopart ?_ | refine L3.s_cI ?_ | refine L3.s_cB ?_ | refine L3.s_chain ?_ | refine L3.s_bm ?_ | refine L3.s_lcS ?_ | refine L3.s_lcR ?_ | refine L3.s_strE ?_
    | refine L2.iteT ?_ | refine L2.iteF ?_ | refine L3.iteNF ?_ | refine L3.iteNT ?_
    | refine L3.s_eqI ?_ | refine L3.s_neI ?_ | refine L3.s_eqS ?_ | refine L3.s_neS ?_
    | refine L3.s_pair ?_ | refine L3.s_pair2 ?_ | refine L3.s_fld ?_ | refine L3.s_make ?_ | refine L3.s_m1 ?_ | refine L3.s_isstr ?_
    | refine L3.s_xfV ?_ | refine L3.s_lstN ?_ | refine L3.s_callF ?_ | refine L3.s_lcL ?_ | refine L3.s_par3 ?_ | refine L3.s_trip ?_ | refine L3.s_asgT' ?_ | refine L3.s_gC ?_ | refine L3.s_gN ?_ | refine L3.s_fldG ?_ | refine L3.s_raise1 ?_ | refine L3.s_raise2 ?_ | refine L3.s_star ?_ | refine L3.s_mkCR ?_ | refine L3.s_lcZ ?_ | refine L3.s_forL ?_ | refine L3.s_forT ?_ | refine L3.s_gNm ?_ | refine L3.s_forE ?_ | refine L3.s_stC ?_ | refine L3.s_cmC ?_ | refine L3.s_forR1 ?_ | refine L3.s_lcTp ?_ | refine L3.s_forZ ?_ | refine L3.s_orT ?_ | refine L3.s_mt ?_ | refine L3.s_revT ?_ | refine L3.s_revL ?_ | refine L3.s_slOwn ?_ | refine L3.s_sl3 ?_ | refine L3.s_lcO ?_ | refine L3.s_stR ?_
    | refine L3.s_dcL ?_ | refine L3.s_dcT ?_ | refine L3.s_dget ?_ | refine L3.s_forET ?_ | refine L3.s_din ?_ | refine L3.s_dnin ?_ | refine L3.s_mkKV ?_
    | refine L3.s_isN ?_ | refine L3.s_isB ?_ | refine L3.s_nisN ?_ | refine L3.s_nisB ?_
  | ((with_reducible refine' L3.s_var ?e ?_); (case e => rfl))
  | ((with_reducible refine' L3.s_aug ?e ?_); (case e => rfl))
  | ((with_reducible refine' L3.s_pow ?c ?_); (case c => exact ⟨by decide, by decide, by decide⟩)))
local macro_rules | `(tactic| tm_at "s") => `(tactic| repeat tm_at "s1")
namespace K30
open PySem PySem.NumText PySem.Spec PyProof.Rows L2 L3 LamX RZ ClX
abbrev s__law_right : Stmt := topS 91
abbrev names__law_right : List Str := ["_law_pen_here", "_law_speeds", "_law_plan", "_law_sizes_here", "_law_told", "_law_again"]
theorem sc__law_right : FnScope ["_law_pen_here", "_law_speeds", "_law_plan", "_law_sizes_here", "_law_told", "_law_again"] ["_law_pen_here"] (defScope s__law_right) := ⟨rfl, rfl, rfl, by decide +kernel, rfl, by decide +kernel, by decide +kernel⟩
abbrev s_law : Stmt := topS 92
theorem sc_law : FnScope ["_law_script", "_law_pen_here", "_law_turn"] ["_law_script"] (defScope s_law) := ⟨rfl, rfl, rfl, by decide +kernel, rfl, by decide +kernel, by decide +kernel⟩
def spLaw (K : PySem.W.Frag) (TT : List (Addr × Str)) : Sp := fun vs H Q _ => ∃ a ns, vs = [.ref a] ∧ SqL K H a (ns.map V.int) ∧ (ns : List Int).length ≤ 63 ∧ Tabs TT H ∧ ∀ H', Q (.bl true) H'
section
variable {P : Program} {w : World} {K : PySem.W.Frag} {mg : Str → Option Value} {base : Heap} {A : LaA} {CBR CL CT CM CWB CSp CA CF : Addr}
theorem ok_rightT {f : Addr} {fd : FuncData} (F : Fun K "_law_right" "_law_right" s__law_right f fd) (T : TxtJ K mg A) (TQ : TxtQ K mg A.ra CBR CL) (b_range : mg "range" = none)
    (c_lateness : FnO P w K mg base (L2.CX P w) 10 "lateness" ["chunks", "setting"] (spLatG K A)) (st_of : StM P w K mg base (L2.CX P w) 7 A.ck "of" ["sizes"] (spOf K A.ck A.cb A.cc CM))
    (c__law_draw : Fn P w K mg base CX0 1 "_law_draw" ["_law_pen_here", "_law_many"] spDraw) (c__law_pick : Fn P w K mg base CX0 2 "_law_pick" ["_law_pen_here", "_law_some"] spPick)
    (c__law_setting : Fn P w K mg base CX0 11 "_law_setting" ["_law_plan"] (spSetP A.st A.cw A.ra)) (c__law_worst : Fn P w K mg base CX0 4 "_law_worst" ["_law_plan", "_law_sizes_here", "_law_late_here", "_law_under_here"] spWorstT) :
    FnG P w K mg base CX0 12 f fd ["_law_pen_here"] spRightT := by
  refine funG F sc__law_right (fun vs H Q E h => ?_) (fun cd A' fr s H vs Q E hr hg h => ?_)
  · obtain ⟨pa, n, rfl, _⟩ := h; rfl
  · obtain ⟨pa, n, rfl, pen, hn, k⟩ := h
    refine ⟨_, (pss_cons (ps_set (i := 1) sc__law_right.nd rfl (Or.inl rfl) (pe_f c__law_pick hr hg pass0 (pa_cons (pv 0) (pa_cons (pe_lst (pa_cons (pe_disp (pps_cons pe_str pe_int (pps_cons pe_str pe_int pps_nil)) (by rfl) (by rfl) (fun z => by cases z) (by decide)) (pa_cons (pe_disp (pps_cons pe_str pe_int (pps_cons pe_str pe_int pps_nil)) (by rfl) (by rfl) (fun z => by cases z) (by decide)) (pa_cons (pe_disp (pps_cons pe_str pe_int (pps_cons pe_str pe_int pps_nil)) (by rfl) (by rfl) (fun z => by cases z) (by decide)) (pa_cons (pe_disp (pps_cons pe_str pe_int (pps_cons pe_str pe_int pps_nil)) (by rfl) (by rfl) (fun z => by cases z) (by decide)) pa_nil))))) pa_nil))))
      (pss_cons (ps_set (i := 2) sc__law_right.nd rfl (Or.inl rfl) (pe_disp (pps_cons pe_str (pv 1) (pps_cons pe_str pe_int (pps_cons pe_str (pe_op opAdd pe_int (pe_f c__law_draw hr hg pass0 (pa_cons (pv 0) (pa_cons pe_int pa_nil)))) (pps_cons pe_str (pe_f c__law_draw hr hg pass0 (pa_cons (pv 0) (pa_cons pe_int pa_nil))) pps_nil)))) (by rfl) (by rfl) (fun z => by cases z) (by decide)))
      (pss_cons (ps_setLc (i := 3) (own := [("_law_again", 5)]) (g := gName 5) (tt := tYes) (by rfl) sc__law_right.nd rfl rfl (sw_true rfl rfl rfl (by decide +kernel)) (pi_range1 (by rfl) b_range (pa_cons (pe_op opAdd pe_int (pe_f c__law_draw hr hg pass0 (pa_cons (pv 0) (pa_cons pe_int pa_nil)))) pa_nil)) (blkOk_by (own := [("_law_again", 5)]) (N := names__law_right) (sc := defScope s__law_right) (by decide +kernel)) (fun _ _ _ _ _ => pg_name (i := 5) sc__law_right.nd rfl (Or.inl rfl)) (fun _ _ _ _ _ => pts_nil) (fun _ _ _ _ _ => (pe_op opAdd pe_int (pe_f c__law_draw hr hg pass0 (pa_cons (pv 0) (pa_cons pe_int pa_nil))))))
      (pss_cons (ps_set (i := 4) sc__law_right.nd rfl (Or.inl rfl) (pe_o c_lateness hr passF (pa_cons (pe_st st_of hr passF (C8.pe_gc (by rfl) T.g_Chunks) (pa_cons (pv 3) pa_nil)) (pa_cons (pe_f c__law_setting hr hg pass0 (pa_cons (pv 2) pa_nil)) pa_nil))))
      (pss_one (ps_ret (pe_f c__law_worst hr hg pass0 (pa_cons (pv 2) (pa_cons (pv 3) (pa_cons (KX.fld (K := K) rfl (pv 4) rfl) (pa_cons (KX.fld (K := K) rfl (pv 4) rfl) pa_nil))))))))))), ?_⟩
    tm_at "s"
    refine s_disp2k (k1 := .inr "a") (k2 := .inr "b") (v1 := .int 1) (v2 := .int 1) (by decide) (fun _ _ _ r => by tm_at "s"; exact r) (fun _ _ _ r => by tm_at "s"; exact r) (fun _ _ _ r => by tm_at "s"; exact r) (fun _ _ _ r => by tm_at "s"; exact r) fun q1 G1 m1 f1 g1 => ?_
    tm_at "s"
    refine s_disp2k (k1 := .inr "a") (k2 := .inr "b") (v1 := .int 1) (v2 := .int 2) (by decide) (fun _ _ _ r => by tm_at "s"; exact r) (fun _ _ _ r => by tm_at "s"; exact r) (fun _ _ _ r => by tm_at "s"; exact r) (fun _ _ _ r => by tm_at "s"; exact r) fun q2 G2 m2 f2 g2 => ?_
    tm_at "s"
    refine s_disp2k (k1 := .inr "a") (k2 := .inr "b") (v1 := .int 3) (v2 := .int 1) (by decide) (fun _ _ _ r => by tm_at "s"; exact r) (fun _ _ _ r => by tm_at "s"; exact r) (fun _ _ _ r => by tm_at "s"; exact r) (fun _ _ _ r => by tm_at "s"; exact r) fun q3 G3 m3 f3 g3 => ?_
    tm_at "s"
    refine s_disp2k (k1 := .inr "a") (k2 := .inr "b") (v1 := .int 2) (v2 := .int 2) (by decide) (fun _ _ _ r => by tm_at "s"; exact r) (fun _ _ _ r => by tm_at "s"; exact r) (fun _ _ _ r => by tm_at "s"; exact r) (fun _ _ _ r => by tm_at "s"; exact r) fun q4 G4 m4 f4 g4 => ?_
    tm_at "s"
    refine s_new (Nat.le_of_lt (small1000 (by simp))) fun q5 G5 m5 f5 g5 => ?_
    have E5 : Ex H G5 := f1.trans (f2.trans (f3.trans (f4.trans f5)))
    have pE := pen.ex E5
    refine ⟨pa, q5, n, _, rfl, g5, by simp, by simp, pE, by omega, fun v G7 hv p7 k7 => ?_⟩
    obtain ⟨d, sa, sb, tk, rfl, hd, hc4⟩ : ∃ d sa sb tk, v = .ref d ∧ G5 d = some (.dK ((pairW sa sb).map wI)) ∧ Crew4 sa sb tk := by
      simp only [List.mem_cons, List.not_mem_nil, or_false] at hv
      rcases hv with rfl | rfl | rfl | rfl
      · exact ⟨q1, 1, 1, 1, rfl, f5 _ _ (f4 _ _ (f3 _ _ (f2 _ _ g1))), by unfold Crew4; decide⟩
      · exact ⟨q2, 1, 2, 2, rfl, f5 _ _ (f4 _ _ (f3 _ _ g2)), by unfold Crew4; decide⟩
      · exact ⟨q3, 3, 1, 3, rfl, f5 _ _ (f4 _ _ g3), by unfold Crew4; decide⟩
      · exact ⟨q4, 2, 2, 2, rfl, f5 _ _ g4, by unfold Crew4; decide⟩
    have hd7 := dk_keep hd pE k7
    clear hv g1 g2 g3 g4 g5 f1 f2 f3 f4 f5 m1 m2 m3 m4 m5 hd E5 k7 pE
    try dsimp only
    tm_at "s"
    refine s_disp fun pd hpd => ?_
    have pda : pd ≠ pa := fun z => by obtain ⟨c, h⟩ := p7.at; rw [z, h] at hpd; cases hpd
    have e8 : Ex G7 (upd G7 pd (.dK [])) := ex_new hpd
    refine s_pr ?_
    tm_at "s"
    refine s_pr ?_
    tm_at "s"
    refine s_pr ?_
    tm_at "s"
    refine ⟨pa, n + 1, 2, rfl, by decide, by decide, p7.ex e8, by omega, fun e1 H8 e10 e11 p8 k8 => ?_⟩
    obtain ⟨b, rfl, hb⟩ : ∃ b : Nat, e1 = (b : Int) ∧ b < 2 := ⟨e1.toNat, by omega, by omega⟩
    try dsimp only
    tm_at "s"
    refine s_pr ?_
    tm_at "s"
    refine ⟨pa, n + 2, 3, rfl, by decide, by decide, p8, by omega, fun e2 H9 e20 e21 p9 k9 => ?_⟩
    obtain ⟨fee, rfl, hf⟩ : ∃ b : Nat, e2 = (b : Int) ∧ b < 3 := ⟨e2.toNat, by omega, by omega⟩
    refine s_pr0 ?_
    have hpd9 : H9 pd = some (.dK []) := k9 _ _ pda (k8 _ _ pda upd_same)
    have da : d ≠ pa := p7.ne hd7 fun c n z => by unfold PenO at z; cases z
    have hd9 : H9 d = some (.dK ((pairW sa sb).map wI)) := k9 _ _ da (k8 _ _ da (e8 _ _ hd7))
    have dpd : d ≠ pd := fun z => by rw [← z, hd7] at hpd; cases hpd
    refine ⟨hpd9, plF d 1 ((b + 1 : Nat) : Int) (fee : Int), by rw [Int.natCast_add, Int.add_comm]; rfl, (show 4 ≤ 15 by decide), ?_⟩
    have pen10 : Pen (upd H9 pd (.dK (mergeK [] (plF d 1 ((b + 1 : Nat) : Int) (fee : Int))))) pa (n + 1 + 1 + 1) := pen_updD p9 hpd9
    have pl10 : Plan (upd H9 pd (.dK (mergeK [] (plF d 1 ((b + 1 : Nat) : Int) (fee : Int))))) pd (pairW sa sb) 1 ((b + 1 : Nat) : Int) (fee : Int) := ⟨d, upd_same, by rw [upd_ne dpd]; exact hd9⟩
    generalize upd H9 pd (.dK (mergeK [] (plF d 1 ((b + 1 : Nat) : Int) (fee : Int)))) = H10 at pen10 pl10
    have hbb : b + 1 = 1 ∨ b + 1 = 2 := by omega
    generalize b + 1 = bb at hbb pl10
    try dsimp only
    tm_at "s"
    refine ⟨pa, n + 3, 3, rfl, by decide, by decide, pen10, by omega, fun e3 H11 e30 e31 p11 k11 => ?_⟩
    have pl11 := pl10.kp' pen10 (KpN.of k11)
    try dsimp only
    tm_at "s"
    refine ⟨by omega, by omega, lcPen (q := 1) (fun y => ∃ x : Nat, y = .int (x : Int) ∧ 1 ≤ x ∧ x ≤ 3) p11 (sz100k (by omega)) (fun _ => rfl) (fun i H' m' R hi hk pm hm r => ?_) fun ls H12 m' ys nls hk pm hm hy hp h12 => ?_⟩
    · tm_at "s"
      refine ⟨pa, m', 3, rfl, by decide, by decide, pm, by omega, fun e4 H3 e40 e41 p3 k3 => ?_⟩
      try dsimp only
      tm_at "s"
      exact r _ H3 (m' + 1) k3 p3 (Nat.le_refl _) ⟨(1 + e4).toNat, by rw [show (((1 + e4).toNat : Nat) : Int) = 1 + e4 by omega], by omega, by omega⟩
    obtain ⟨sz, rfl, hsz⟩ := nats_of hp
    rw [List.length_map, List.length_map] at hy
    have pl12 := pl11.kp' p11 (KpN.of hk)
    have hl3 : sz.length ≤ 3 := by omega
    have hne : sz ≠ [] := fun z => by rw [z] at hy; simp at hy; omega
    try dsimp only
    tm_at "s"
    have hsi : ∀ x ∈ sz.map Int.ofNat, siz x := fun x hx => by
      obtain ⟨y, hy, rfl⟩ := List.mem_map.mp hx
      have := hsz y hy
      exact ⟨by show (1 : Int) ≤ (y : Int); omega, Int.le_trans (show ((y : Nat) : Int) ≤ 3 by omega) (by decide +kernel)⟩
    refine ⟨.ref ls, rfl, .inl ⟨ls, (sz.map Int.ofNat).map V.int, rfl, .inl h12, ⟨by rw [List.length_map, List.length_map]; omega, .inl ⟨sz.map Int.ofNat, rfl, hsi, .inl ⟨by rw [List.length_map]; omega, fun lo H13 e13 ck => ?_⟩⟩⟩⟩⟩
    show (tCons _ tNil) _ _ _
    tm_at "s"
    obtain ⟨s1, s2, s3, s4, t1, t3⟩ := hc4.two.small
    have okw : OkW (pairW sa sb) := ⟨by simp [pairW], by show 2 ≤ 8; decide, fun p hp => by
      have hp : p = (("a" : Str), (sa : Int)) ∨ p = (("b" : Str), (sb : Int)) := by simpa [pairW] using hp
      rcases hp with rfl | rfl
      · show nameB "a" = true; decide +kernel
      · show nameB "b" = true; decide +kernel, fun p hp => by
      have hp : p = (("a" : Str), (sa : Int)) ∨ p = (("b" : Str), (sb : Int)) := by simpa [pairW] using hp
      rcases hp with rfl | rfl
      · exact ⟨by show (1 : Int) ≤ (sa : Int); omega, by show (sa : Int) ≤ 60; omega⟩
      · exact ⟨by show (1 : Int) ≤ (sb : Int); omega, by show (sb : Int) ≤ 60; omega⟩, by show (["a", "b"] : List Str).Nodup; decide⟩
    have oks : OkS 1 (bb : Int) (fee : Int) := ⟨by decide, by omega, by omega, by omega, Int.le_trans (show (fee : Int) ≤ 3 by omega) (by decide +kernel)⟩
    refine ⟨pd, pairW sa sb, 1, _, _, rfl, pl12.ex e13, okw, oks, fun so H14 e14 st => ?_⟩
    rw [srtW_pair] at st
    try dsimp only
    tm_at "s"
    refine ⟨_, _, rfl, .inr ⟨lo, so, sz.map Int.ofNat, pairW sa sb, 1, (bb : Int), (fee : Int), rfl, rfl, ck.ex e14, by rw [List.length_map]; omega, hsi, st, okw, oks, .inr ⟨fun z => hne (List.map_eq_nil_iff.mp z), fun i t H15 hF hi e15 rt => ?_⟩⟩⟩
    rw [List.length_map] at hi
    obtain ⟨l, u, hlu, l1, l2, u2, ok⟩ := case_at hc4 hbb hf (mem_sizes3 sz hne hl3 hsz) hi fun j hj => by
      obtain ⟨r, hr, hle, _⟩ := hF
      have hg : ∀ k, k < sz.length → (latesF (pairW sa sb) 1 (bb : Int) (fee : Int) (sz.map Int.ofNat))[k]? = some (lateI (pairW sa sb) 1 (bb : Int) (fee : Int) (sz.map Int.ofNat) k) := fun k hk => by
        unfold latesF
        rw [List.getElem?_map, List.length_map, List.getElem?_range hk]; rfl
      rw [hg i hi] at hr
      cases hr
      exact hle j _ (hg j hj)
    rw [hlu] at rt
    obtain ⟨dx, ir⟩ := id rt
    have x15 := e13.trans (e14.trans e15)
    try dsimp only
    tm_at "s"
    refine ⟨t, A.ra, dx, _, _, rfl, ir, TQ.cl, TQ.nO, rfl, ?_⟩
    try dsimp only
    tm_at "s"
    refine ⟨t, A.ra, dx, _, _, rfl, ir, TQ.cl, TQ.nU, rfl, ?_⟩
    try dsimp only
    tm_at "s"
    refine ⟨pd, ls, sa, sb, tk, bb, fee, sz, l, u, rfl, pl12.ex x15, hc4.two, hbb, by omega, x15 _ _ h12, hne, hl3, fun s hs => (hsz s hs).2, l1, l2, u2, ok, fun H16 e16 => ?_⟩
    try dsimp only
    tm_at "s"
    exact k H16 m' (by omega) (pm.ex (x15.trans e16))
theorem ok_lawT {f : Addr} {fd : FuncData} (F : Fun K "law" "law" s_law f fd) (b_range : mg "range" = none)
    (c__law_pen : Fn P w K mg base CX0 1 "_law_pen" ["_law_script"] (spPen K)) (c__law_right : Fn P w K mg base CX0 12 "_law_right" ["_law_pen_here"] spRightT) (c__law_worst : Fn P w K mg base CX0 4 "_law_worst" ["_law_plan", "_law_sizes_here", "_law_late_here", "_law_under_here"] spWorstT) :
    FnG P w K mg base CX0 13 f fd ["_law_script"] (spLaw K []) := by
  refine funG F sc_law (fun vs H Q E h => ?_) (fun cd A' fr s H vs Q E hr hg h => ?_)
  · obtain ⟨a, ns, rfl, _⟩ := h; rfl
  · obtain ⟨a, ns, rfl, hs, hl, _, k⟩ := h
    refine ⟨_, (pss_cons (ps_set (i := 1) sc_law.nd rfl (Or.inl rfl) (pe_f c__law_pen hr hg pass0 (pa_cons (pv 0) pa_nil)))
      (pss_cons (ps_for (passes_of rfl) rfl (pi_range1 (by rfl) b_range (pa_cons pe_int pa_nil)) (pg_name (i := 2) sc_law.nd rfl (Or.inl rfl)) (pss_one (ps_if (pt_not (pt_val (pe_f c__law_right hr hg pass0 (pa_cons (pv 1) pa_nil)))) (pss_one (ps_ret pe_bl)) pss_nil)))
      (pss_one (ps_ret (pe_f c__law_worst hr hg pass0 (pa_cons (pe_disp (pps_cons pe_str (pe_disp (pps_cons pe_str pe_int (pps_cons pe_str pe_int pps_nil)) (by rfl) (by rfl) (fun z => by cases z) (by decide)) (pps_cons pe_str pe_int (pps_cons pe_str pe_int (pps_cons pe_str pe_int pps_nil)))) (by rfl) (by rfl) (fun z => by cases z) (by decide)) (pa_cons (pe_lst (pa_cons pe_int (pa_cons pe_int pa_nil))) (pa_cons pe_int (pa_cons pe_int pa_nil))))))))), ?_⟩
    tm_at "s"
    refine ⟨a, ns, rfl, hs, hl, fun p H1 hp e1 p1 => ?_⟩
    try dsimp only
    tm_at "s"
    refine ⟨by decide, by decide, ?_⟩
    refine forRg (n := 2) (fun i σ H' => (∃ v2, σ = [some (.ref a), some (.ref p), v2]) ∧ ∃ m', m' ≤ 7 * i ∧ Pen H' p m') ⟨⟨_, rfl⟩, 0, by omega, p1⟩ ?_ ?_
    · rintro i _ H2 hi ⟨⟨v2, rfl⟩, m', hm', p2⟩
      refine s_gNm ?_
      try dsimp only
      tm_at "s"
      refine ⟨p, m', rfl, p2, by unfold lim; omega, fun H3 m3 hm3 p3 => ?_⟩
      tm_at "s"
      exact ⟨⟨_, rfl⟩, m3, by omega, p3⟩
    · rintro _ H2 ⟨⟨v2, rfl⟩, m', hm', p2⟩
      tm_at "s"
      refine s_disp fun pd hpd => ?_
      have e3 : Ex H2 (upd H2 pd (.dK [])) := ex_new hpd
      have hpd3 : (upd H2 pd (.dK [])) pd = some (.dK []) := upd_same
      generalize upd H2 pd (.dK []) = H3 at e3 hpd3
      refine s_pr ?_
      tm_at "s"
      refine s_disp2k (k1 := .inr "a") (k2 := .inr "b") (v1 := .int 1) (v2 := .int 3) (by decide) (fun _ _ _ r => by tm_at "s"; exact r) (fun _ _ _ r => by tm_at "s"; exact r) (fun _ _ _ r => by tm_at "s"; exact r) (fun _ _ _ r => by tm_at "s"; exact r) fun d H4 nd e4 hd => ?_
      have hpd4 := e4 _ _ hpd3
      refine s_pr ?_
      tm_at "s"
      refine s_pr ?_
      tm_at "s"
      refine s_pr ?_
      tm_at "s"
      refine s_pr0 ?_
      have dpd : d ≠ pd := fun z => by rw [z, hpd3] at nd; cases nd
      refine ⟨hpd4, plF d 1 ((1 : Nat) : Int) ((1 : Nat) : Int), rfl, (show 4 ≤ 15 by decide), ?_⟩
      have pl5 : Plan (upd H4 pd (.dK (mergeK [] (plF d 1 ((1 : Nat) : Int) ((1 : Nat) : Int))))) pd (pairW 1 3) 1 ((1 : Nat) : Int) ((1 : Nat) : Int) := ⟨d, upd_same, by rw [upd_ne dpd]; exact hd⟩
      generalize upd H4 pd (.dK (mergeK [] (plF d 1 ((1 : Nat) : Int) ((1 : Nat) : Int)))) = H5 at pl5
      try dsimp only
      tm_at "s"
      refine s_new (Nat.le_of_lt (small1000 (by simp))) fun l6 H6 n6 e6 h6 => ?_
      try dsimp only
      tm_at "s"
      refine ⟨pd, l6, 1, 3, 3, 1, 1, [2, 2], 10, 3, rfl, pl5.ex e6, by unfold Crew2; decide, .inl rfl, by decide, h6, by decide, by decide, by decide, by decide, by decide, by decide, all13, fun H7 e7 => ?_⟩
      try dsimp only
      tm_at "s"
      exact k H7
end
end K30
end
section
namespace K30
open PySem PySem.Spec PyProof.Rows L2 L3 LamX
abbrev s_BadSize___init__ : Stmt := inClass (topS 12) 0
theorem ns_BadSize : NdefX.NScope ["self", "value", "__class__"] ["self", "value"] ["__class__"] (defScope s_BadSize___init__) := NdefX.nscope_by (by decide +kernel)
theorem ok_BadSize {P : Program} {w : World} {K : PySem.W.Frag} {mg : Str → Option Value} {base : Heap} {C f cda cc : Addr} {kV doc pm ct oc : Value} {an od : Option Addr} {osl : Array (Option Value)}
    (lk : K.lookup f = some ⟨oc, od, .func (PySem.W.fnX "__init__" "BadSize.__init__" (defArgs s_BadSize___init__) (defBody s_BadSize___init__) (defScope s_BadSize___init__) [("__class__", cc)] .none kV doc pm an (.ref cda) ct), osl⟩) (hcd : PySem.W.codeIn K (.ref cda) "BadSize.__init__" = true)
    (T : SupF P K mg C f cda cc (defScope s_BadSize___init__)) (n1 : PySem.W.findIn K (.ref C) "value" = some none) :
    FnOk P w K mg base CX0 1 f (PySem.W.fnX "__init__" "BadSize.__init__" (defArgs s_BadSize___init__) (defBody s_BadSize___init__) (defScope s_BadSize___init__) [("__class__", cc)] .none kV doc pm an (.ref cda) ct) ["self", "value"] (spErr1 C "value") :=
  okErr1 (g1 := "value") (x := "value") rfl lk hcd T ns_BadSize rfl rfl (fun env _ => ⟨_, rfl⟩) (by decide) (by decide) n1 (fun env _ => rfl)
abbrev s_BadChunks___init__ : Stmt := inClass (topS 18) 0
theorem ns_BadChunks : NdefX.NScope ["self", "part", "__class__"] ["self", "part"] ["__class__"] (defScope s_BadChunks___init__) := NdefX.nscope_by (by decide +kernel)
theorem ok_BadChunks {P : Program} {w : World} {K : PySem.W.Frag} {mg : Str → Option Value} {base : Heap} {C f cda cc : Addr} {kV doc pm ct oc : Value} {an od : Option Addr} {osl : Array (Option Value)}
    (lk : K.lookup f = some ⟨oc, od, .func (PySem.W.fnX "__init__" "BadChunks.__init__" (defArgs s_BadChunks___init__) (defBody s_BadChunks___init__) (defScope s_BadChunks___init__) [("__class__", cc)] .none kV doc pm an (.ref cda) ct), osl⟩) (hcd : PySem.W.codeIn K (.ref cda) "BadChunks.__init__" = true)
    (T : SupF P K mg C f cda cc (defScope s_BadChunks___init__)) (n1 : PySem.W.findIn K (.ref C) "part" = some none) :
    FnOk P w K mg base CX0 1 f (PySem.W.fnX "__init__" "BadChunks.__init__" (defArgs s_BadChunks___init__) (defBody s_BadChunks___init__) (defScope s_BadChunks___init__) [("__class__", cc)] .none kV doc pm an (.ref cda) ct) ["self", "part"] (spErr1 C "part") :=
  okErr1 (g1 := "part") (x := "part") rfl lk hcd T ns_BadChunks rfl rfl (fun env _ => ⟨_, rfl⟩) (by decide) (by decide) n1 (fun env _ => rfl)
abbrev s_TooMany___init__ : Stmt := inClass (topS 24) 0
theorem ns_TooMany : NdefX.NScope ["self", "what", "most", "__class__"] ["self", "what", "most"] ["__class__"] (defScope s_TooMany___init__) := NdefX.nscope_by (by decide +kernel)
theorem ok_TooMany {P : Program} {w : World} {K : PySem.W.Frag} {mg : Str → Option Value} {base : Heap} {C f cda cc : Addr} {kV doc pm ct oc : Value} {an od : Option Addr} {osl : Array (Option Value)}
    (lk : K.lookup f = some ⟨oc, od, .func (PySem.W.fnX "__init__" "TooMany.__init__" (defArgs s_TooMany___init__) (defBody s_TooMany___init__) (defScope s_TooMany___init__) [("__class__", cc)] .none kV doc pm an (.ref cda) ct), osl⟩) (hcd : PySem.W.codeIn K (.ref cda) "TooMany.__init__" = true)
    (T : SupF P K mg C f cda cc (defScope s_TooMany___init__)) (n1 : PySem.W.findIn K (.ref C) "what" = some none) (n2 : PySem.W.findIn K (.ref C) "most" = some none) :
    FnOk P w K mg base CX0 1 f (PySem.W.fnX "__init__" "TooMany.__init__" (defArgs s_TooMany___init__) (defBody s_TooMany___init__) (defScope s_TooMany___init__) [("__class__", cc)] .none kV doc pm an (.ref cda) ct) ["self", "what", "most"] (spErr2 C "what" "most") :=
  okErr2 (g1 := "what") (g2 := "most") (x := "what") (y := "most") rfl lk hcd T ns_TooMany rfl rfl (fun env _ => ⟨_, rfl⟩) (by decide) (by decide) (by decide) (by decide) n1 n2 (fun env _ => rfl) (fun env _ => rfl)
abbrev s_NoChunk___init__ : Stmt := inClass (topS 23) 0
theorem ns_NoChunk : NdefX.NScope ["self", "at", "__class__"] ["self", "at"] ["__class__"] (defScope s_NoChunk___init__) := NdefX.nscope_by (by decide +kernel)
theorem ok_NoChunk {P : Program} {w : World} {K : PySem.W.Frag} {mg : Str → Option Value} {base : Heap} {C f cda cc : Addr} {kV doc pm ct oc : Value} {an od : Option Addr} {osl : Array (Option Value)}
    (lk : K.lookup f = some ⟨oc, od, .func (PySem.W.fnX "__init__" "NoChunk.__init__" (defArgs s_NoChunk___init__) (defBody s_NoChunk___init__) (defScope s_NoChunk___init__) [("__class__", cc)] .none kV doc pm an (.ref cda) ct), osl⟩) (hcd : PySem.W.codeIn K (.ref cda) "NoChunk.__init__" = true)
    (T : SupF P K mg C f cda cc (defScope s_NoChunk___init__)) (n1 : PySem.W.findIn K (.ref C) "at" = some none) :
    FnOk P w K mg base CX0 1 f (PySem.W.fnX "__init__" "NoChunk.__init__" (defArgs s_NoChunk___init__) (defBody s_NoChunk___init__) (defScope s_NoChunk___init__) [("__class__", cc)] .none kV doc pm an (.ref cda) ct) ["self", "at"] (spErr1 C "at") :=
  okErr1 (g1 := "at") (x := "at") rfl lk hcd T ns_NoChunk rfl rfl (fun env _ => ⟨_, rfl⟩) (by decide) (by decide) n1 (fun env _ => rfl)
abbrev s_BadName___init__ : Stmt := inClass (topS 11) 0
theorem ns_BadName : NdefX.NScope ["self", "value", "__class__"] ["self", "value"] ["__class__"] (defScope s_BadName___init__) := NdefX.nscope_by (by decide +kernel)
theorem ok_BadName {P : Program} {w : World} {K : PySem.W.Frag} {mg : Str → Option Value} {base : Heap} {C f cda cc : Addr} {kV doc pm ct oc : Value} {an od : Option Addr} {osl : Array (Option Value)}
    (lk : K.lookup f = some ⟨oc, od, .func (PySem.W.fnX "__init__" "BadName.__init__" (defArgs s_BadName___init__) (defBody s_BadName___init__) (defScope s_BadName___init__) [("__class__", cc)] .none kV doc pm an (.ref cda) ct), osl⟩) (hcd : PySem.W.codeIn K (.ref cda) "BadName.__init__" = true)
    (T : SupF P K mg C f cda cc (defScope s_BadName___init__)) (n1 : PySem.W.findIn K (.ref C) "value" = some none) :
    FnOk P w K mg base CX0 1 f (PySem.W.fnX "__init__" "BadName.__init__" (defArgs s_BadName___init__) (defBody s_BadName___init__) (defScope s_BadName___init__) [("__class__", cc)] .none kV doc pm an (.ref cda) ct) ["self", "value"] (spErr1 C "value") :=
  okErr1 (g1 := "value") (x := "value") rfl lk hcd T ns_BadName rfl rfl (fun env _ => ⟨_, rfl⟩) (by decide) (by decide) n1 (fun env _ => rfl)
abbrev s_BadSpeed___init__ : Stmt := inClass (topS 13) 0
theorem ns_BadSpeed : NdefX.NScope ["self", "value", "__class__"] ["self", "value"] ["__class__"] (defScope s_BadSpeed___init__) := NdefX.nscope_by (by decide +kernel)
theorem ok_BadSpeed {P : Program} {w : World} {K : PySem.W.Frag} {mg : Str → Option Value} {base : Heap} {C f cda cc : Addr} {kV doc pm ct oc : Value} {an od : Option Addr} {osl : Array (Option Value)}
    (lk : K.lookup f = some ⟨oc, od, .func (PySem.W.fnX "__init__" "BadSpeed.__init__" (defArgs s_BadSpeed___init__) (defBody s_BadSpeed___init__) (defScope s_BadSpeed___init__) [("__class__", cc)] .none kV doc pm an (.ref cda) ct), osl⟩) (hcd : PySem.W.codeIn K (.ref cda) "BadSpeed.__init__" = true)
    (T : SupF P K mg C f cda cc (defScope s_BadSpeed___init__)) (n1 : PySem.W.findIn K (.ref C) "value" = some none) :
    FnOk P w K mg base CX0 1 f (PySem.W.fnX "__init__" "BadSpeed.__init__" (defArgs s_BadSpeed___init__) (defBody s_BadSpeed___init__) (defScope s_BadSpeed___init__) [("__class__", cc)] .none kV doc pm an (.ref cda) ct) ["self", "value"] (spErr1 C "value") :=
  okErr1 (g1 := "value") (x := "value") rfl lk hcd T ns_BadSpeed rfl rfl (fun env _ => ⟨_, rfl⟩) (by decide) (by decide) n1 (fun env _ => rfl)
abbrev s_BadCrew___init__ : Stmt := inClass (topS 19) 0
theorem ns_BadCrew : NdefX.NScope ["self", "part", "__class__"] ["self", "part"] ["__class__"] (defScope s_BadCrew___init__) := NdefX.nscope_by (by decide +kernel)
theorem ok_BadCrew {P : Program} {w : World} {K : PySem.W.Frag} {mg : Str → Option Value} {base : Heap} {C f cda cc : Addr} {kV doc pm ct oc : Value} {an od : Option Addr} {osl : Array (Option Value)}
    (lk : K.lookup f = some ⟨oc, od, .func (PySem.W.fnX "__init__" "BadCrew.__init__" (defArgs s_BadCrew___init__) (defBody s_BadCrew___init__) (defScope s_BadCrew___init__) [("__class__", cc)] .none kV doc pm an (.ref cda) ct), osl⟩) (hcd : PySem.W.codeIn K (.ref cda) "BadCrew.__init__" = true)
    (T : SupF P K mg C f cda cc (defScope s_BadCrew___init__)) (n1 : PySem.W.findIn K (.ref C) "part" = some none) :
    FnOk P w K mg base CX0 1 f (PySem.W.fnX "__init__" "BadCrew.__init__" (defArgs s_BadCrew___init__) (defBody s_BadCrew___init__) (defScope s_BadCrew___init__) [("__class__", cc)] .none kV doc pm an (.ref cda) ct) ["self", "part"] (spErr1 C "part") :=
  okErr1 (g1 := "part") (x := "part") rfl lk hcd T ns_BadCrew rfl rfl (fun env _ => ⟨_, rfl⟩) (by decide) (by decide) n1 (fun env _ => rfl)
abbrev s_NoWorker___init__ : Stmt := inClass (topS 22) 0
theorem ns_NoWorker : NdefX.NScope ["self", "name", "__class__"] ["self", "name"] ["__class__"] (defScope s_NoWorker___init__) := NdefX.nscope_by (by decide +kernel)
theorem ok_NoWorker {P : Program} {w : World} {K : PySem.W.Frag} {mg : Str → Option Value} {base : Heap} {C f cda cc : Addr} {kV doc pm ct oc : Value} {an od : Option Addr} {osl : Array (Option Value)}
    (lk : K.lookup f = some ⟨oc, od, .func (PySem.W.fnX "__init__" "NoWorker.__init__" (defArgs s_NoWorker___init__) (defBody s_NoWorker___init__) (defScope s_NoWorker___init__) [("__class__", cc)] .none kV doc pm an (.ref cda) ct), osl⟩) (hcd : PySem.W.codeIn K (.ref cda) "NoWorker.__init__" = true)
    (T : SupF P K mg C f cda cc (defScope s_NoWorker___init__)) (n1 : PySem.W.findIn K (.ref C) "name" = some none) :
    FnOk P w K mg base CX0 1 f (PySem.W.fnX "__init__" "NoWorker.__init__" (defArgs s_NoWorker___init__) (defBody s_NoWorker___init__) (defScope s_NoWorker___init__) [("__class__", cc)] .none kV doc pm an (.ref cda) ct) ["self", "name"] (spErr1 C "name") :=
  okErr1 (g1 := "name") (x := "name") rfl lk hcd T ns_NoWorker rfl rfl (fun env _ => ⟨_, rfl⟩) (by decide) (by decide) n1 (fun env _ => rfl)
abbrev s_BadRatio___init__ : Stmt := inClass (topS 16) 0
theorem ns_BadRatio : NdefX.NScope ["self", "value", "__class__"] ["self", "value"] ["__class__"] (defScope s_BadRatio___init__) := NdefX.nscope_by (by decide +kernel)
theorem ok_BadRatio {P : Program} {w : World} {K : PySem.W.Frag} {mg : Str → Option Value} {base : Heap} {C f cda cc : Addr} {kV doc pm ct oc : Value} {an od : Option Addr} {osl : Array (Option Value)}
    (lk : K.lookup f = some ⟨oc, od, .func (PySem.W.fnX "__init__" "BadRatio.__init__" (defArgs s_BadRatio___init__) (defBody s_BadRatio___init__) (defScope s_BadRatio___init__) [("__class__", cc)] .none kV doc pm an (.ref cda) ct), osl⟩) (hcd : PySem.W.codeIn K (.ref cda) "BadRatio.__init__" = true)
    (T : SupF P K mg C f cda cc (defScope s_BadRatio___init__)) (n1 : PySem.W.findIn K (.ref C) "value" = some none) :
    FnOk P w K mg base CX0 1 f (PySem.W.fnX "__init__" "BadRatio.__init__" (defArgs s_BadRatio___init__) (defBody s_BadRatio___init__) (defScope s_BadRatio___init__) [("__class__", cc)] .none kV doc pm an (.ref cda) ct) ["self", "value"] (spErr1 C "value") :=
  okErr1 (g1 := "value") (x := "value") rfl lk hcd T ns_BadRatio rfl rfl (fun env _ => ⟨_, rfl⟩) (by decide) (by decide) n1 (fun env _ => rfl)
abbrev s_BadRest___init__ : Stmt := inClass (topS 17) 0
theorem ns_BadRest : NdefX.NScope ["self", "value", "__class__"] ["self", "value"] ["__class__"] (defScope s_BadRest___init__) := NdefX.nscope_by (by decide +kernel)
theorem ok_BadRest {P : Program} {w : World} {K : PySem.W.Frag} {mg : Str → Option Value} {base : Heap} {C f cda cc : Addr} {kV doc pm ct oc : Value} {an od : Option Addr} {osl : Array (Option Value)}
    (lk : K.lookup f = some ⟨oc, od, .func (PySem.W.fnX "__init__" "BadRest.__init__" (defArgs s_BadRest___init__) (defBody s_BadRest___init__) (defScope s_BadRest___init__) [("__class__", cc)] .none kV doc pm an (.ref cda) ct), osl⟩) (hcd : PySem.W.codeIn K (.ref cda) "BadRest.__init__" = true)
    (T : SupF P K mg C f cda cc (defScope s_BadRest___init__)) (n1 : PySem.W.findIn K (.ref C) "value" = some none) :
    FnOk P w K mg base CX0 1 f (PySem.W.fnX "__init__" "BadRest.__init__" (defArgs s_BadRest___init__) (defBody s_BadRest___init__) (defScope s_BadRest___init__) [("__class__", cc)] .none kV doc pm an (.ref cda) ct) ["self", "value"] (spErr1 C "value") :=
  okErr1 (g1 := "value") (x := "value") rfl lk hcd T ns_BadRest rfl rfl (fun env _ => ⟨_, rfl⟩) (by decide) (by decide) n1 (fun env _ => rfl)
abbrev s_BadSetting___init__ : Stmt := inClass (topS 20) 0
theorem ns_BadSetting : NdefX.NScope ["self", "part", "__class__"] ["self", "part"] ["__class__"] (defScope s_BadSetting___init__) := NdefX.nscope_by (by decide +kernel)
theorem ok_BadSetting {P : Program} {w : World} {K : PySem.W.Frag} {mg : Str → Option Value} {base : Heap} {C f cda cc : Addr} {kV doc pm ct oc : Value} {an od : Option Addr} {osl : Array (Option Value)}
    (lk : K.lookup f = some ⟨oc, od, .func (PySem.W.fnX "__init__" "BadSetting.__init__" (defArgs s_BadSetting___init__) (defBody s_BadSetting___init__) (defScope s_BadSetting___init__) [("__class__", cc)] .none kV doc pm an (.ref cda) ct), osl⟩) (hcd : PySem.W.codeIn K (.ref cda) "BadSetting.__init__" = true)
    (T : SupF P K mg C f cda cc (defScope s_BadSetting___init__)) (n1 : PySem.W.findIn K (.ref C) "part" = some none) :
    FnOk P w K mg base CX0 1 f (PySem.W.fnX "__init__" "BadSetting.__init__" (defArgs s_BadSetting___init__) (defBody s_BadSetting___init__) (defScope s_BadSetting___init__) [("__class__", cc)] .none kV doc pm an (.ref cda) ct) ["self", "part"] (spErr1 C "part") :=
  okErr1 (g1 := "part") (x := "part") rfl lk hcd T ns_BadSetting rfl rfl (fun env _ => ⟨_, rfl⟩) (by decide) (by decide) n1 (fun env _ => rfl)
abbrev s_BadCost___init__ : Stmt := inClass (topS 14) 0
theorem ns_BadCost : NdefX.NScope ["self", "value", "__class__"] ["self", "value"] ["__class__"] (defScope s_BadCost___init__) := NdefX.nscope_by (by decide +kernel)
theorem ok_BadCost {P : Program} {w : World} {K : PySem.W.Frag} {mg : Str → Option Value} {base : Heap} {C f cda cc : Addr} {kV doc pm ct oc : Value} {an od : Option Addr} {osl : Array (Option Value)}
    (lk : K.lookup f = some ⟨oc, od, .func (PySem.W.fnX "__init__" "BadCost.__init__" (defArgs s_BadCost___init__) (defBody s_BadCost___init__) (defScope s_BadCost___init__) [("__class__", cc)] .none kV doc pm an (.ref cda) ct), osl⟩) (hcd : PySem.W.codeIn K (.ref cda) "BadCost.__init__" = true)
    (T : SupF P K mg C f cda cc (defScope s_BadCost___init__)) (n1 : PySem.W.findIn K (.ref C) "value" = some none) :
    FnOk P w K mg base CX0 1 f (PySem.W.fnX "__init__" "BadCost.__init__" (defArgs s_BadCost___init__) (defBody s_BadCost___init__) (defScope s_BadCost___init__) [("__class__", cc)] .none kV doc pm an (.ref cda) ct) ["self", "value"] (spErr1 C "value") :=
  okErr1 (g1 := "value") (x := "value") rfl lk hcd T ns_BadCost rfl rfl (fun env _ => ⟨_, rfl⟩) (by decide) (by decide) n1 (fun env _ => rfl)
abbrev s_BadFee___init__ : Stmt := inClass (topS 15) 0
theorem ns_BadFee : NdefX.NScope ["self", "value", "__class__"] ["self", "value"] ["__class__"] (defScope s_BadFee___init__) := NdefX.nscope_by (by decide +kernel)
theorem ok_BadFee {P : Program} {w : World} {K : PySem.W.Frag} {mg : Str → Option Value} {base : Heap} {C f cda cc : Addr} {kV doc pm ct oc : Value} {an od : Option Addr} {osl : Array (Option Value)}
    (lk : K.lookup f = some ⟨oc, od, .func (PySem.W.fnX "__init__" "BadFee.__init__" (defArgs s_BadFee___init__) (defBody s_BadFee___init__) (defScope s_BadFee___init__) [("__class__", cc)] .none kV doc pm an (.ref cda) ct), osl⟩) (hcd : PySem.W.codeIn K (.ref cda) "BadFee.__init__" = true)
    (T : SupF P K mg C f cda cc (defScope s_BadFee___init__)) (n1 : PySem.W.findIn K (.ref C) "value" = some none) :
    FnOk P w K mg base CX0 1 f (PySem.W.fnX "__init__" "BadFee.__init__" (defArgs s_BadFee___init__) (defBody s_BadFee___init__) (defScope s_BadFee___init__) [("__class__", cc)] .none kV doc pm an (.ref cda) ct) ["self", "value"] (spErr1 C "value") :=
  okErr1 (g1 := "value") (x := "value") rfl lk hcd T ns_BadFee rfl rfl (fun env _ => ⟨_, rfl⟩) (by decide) (by decide) n1 (fun env _ => rfl)
abbrev s_BadText___init__ : Stmt := inClass (topS 21) 0
end K30
end
section
namespace K30
open PySem PySem.Spec PyProof.Rows L2 L3 LamX
theorem fnMk {P : Program} {w : World} {K : PySem.W.Frag} {mg : Str → Option Value} {base : Heap} {CX : CXT} {k : Nat} {x qual : Str} {st : Stmt} {f : Addr} {fd : FuncData} {ps : List Str} {sp : Sp} (F : Fun K x qual st f fd) (ok : FnG P w K mg base CX k f fd ps sp) (m : mg x = some (.ref f))
    (hb : ∀ (kV doc pm : Value) (an : Option Addr) (cdv ct : Value) (us : List Value), us.length = ps.length → bindArgs (PySem.W.fnOf x qual (defArgs st) (defBody st) (defScope st) .none kV doc pm an cdv ct) ⟨us, []⟩ = pure (ps.zip us))
    (hk : ∀ (kV doc pm : Value) (an : Option Addr) (cdv ct : Value) (us : List Value), us.length = ps.length → bindArgs (PySem.W.fnOf x qual (defArgs st) (defBody st) (defScope st) .none kV doc pm an cdv ct) ⟨[], ps.zip us⟩ = pure (ps.zip us)) : Fn P w K mg base CX k x ps sp := by
  have kp := F.kp
  obtain ⟨oc, od, kV, doc, pm, an, cd, ct, sl, rfl, lk, hcd⟩ := F.ex
  exact ⟨⟨f, _, ok, m, kp, .all (hb kV doc pm an cd ct), fun s ws _ hl => .of_eq (hk kV doc pm an cd ct ws hl)⟩⟩
theorem bMk {K : PySem.W.Frag} {x qual : Str} {st : Stmt} {f : Addr} {fd : FuncData} {ps : List Str} (F : Fun K x qual st f fd)
    (hb : ∀ (kV doc pm : Value) (an : Option Addr) (cdv ct : Value) (us : List Value), us.length = ps.length → bindArgs (PySem.W.fnOf x qual (defArgs st) (defBody st) (defScope st) .none kV doc pm an cdv ct) ⟨us, []⟩ = pure (ps.zip us)) : L2.Binds K fd ps [] := by
  obtain ⟨oc, od, kV, doc, pm, an, cd, ct, sl, rfl, lk, hcd⟩ := F.ex
  exact .all (hb kV doc pm an cd ct)
theorem bkMk {K : PySem.W.Frag} {x qual : Str} {st : Stmt} {f : Addr} {fd : FuncData} {ps : List Str} (F : Fun K x qual st f fd)
    (hk : ∀ (kV doc pm : Value) (an : Option Addr) (cdv ct : Value) (us : List Value), us.length = ps.length → bindArgs (PySem.W.fnOf x qual (defArgs st) (defBody st) (defScope st) .none kV doc pm an cdv ct) ⟨[], ps.zip us⟩ = pure (ps.zip us)) : ∀ (s : Shared) (ws : List Value), K.In s.heap → ws.length = ps.length → BindsTo s fd ⟨[], ps.zip ws⟩ (ps.zip ws) := by
  obtain ⟨oc, od, kV, doc, pm, an, cd, ct, sl, rfl, lk, hcd⟩ := F.ex
  exact fun s ws _ hl => .of_eq (hk kV doc pm an cd ct ws hl)
theorem bmMk {K : PySem.W.Frag} {x qual : Str} {st : Stmt} {f : Addr} {fd : FuncData} {c : Str} {ps : List Str} (F : Fun K x qual st f fd)
    (hk : ∀ (kV doc pm : Value) (an : Option Addr) (cdv ct : Value) (a : Value) (us : List Value), us.length = ps.length → bindArgs (PySem.W.fnOf x qual (defArgs st) (defBody st) (defScope st) .none kV doc pm an cdv ct) ⟨[a], ps.zip us⟩ = pure ((c :: ps).zip (a :: us))) : ∀ (s : Shared) (a : Value) (ws : List Value), K.In s.heap → ws.length = ps.length → BindsTo s fd ⟨[a], ps.zip ws⟩ ((c :: ps).zip (a :: ws)) := by
  obtain ⟨oc, od, kV, doc, pm, an, cd, ct, sl, rfl, lk, hcd⟩ := F.ex
  exact fun s a ws _ hl => .of_eq (hk kV doc pm an cd ct a ws hl)
theorem all_mk {l : PySem.W.OpenLaw} {w : World} {K : PySem.W.Frag} {h : Heap} {mg : Str → Option Value} {fa CK CW CS CQ CB CC CM CN BN BS BW NW BR BE SE BA BF BT CL  : Addr} (X : K.In h) (G : h.Ns mainGlobals mg) (hfa : mg "law" = some (.ref fa))
    {f1 : Addr} {od1 an1 : Option Addr} {sl1 : Array (Option Value)} {oc1 kV1 dc1 pm1 cd1 ct1 : Value}
    {f2 : Addr} {od2 an2 : Option Addr} {sl2 : Array (Option Value)} {oc2 kV2 dc2 pm2 cd2 ct2 : Value}
    {f3 : Addr} {od3 an3 : Option Addr} {sl3 : Array (Option Value)} {oc3 kV3 dc3 pm3 cd3 ct3 : Value}
    {f4 : Addr} {od4 an4 : Option Addr} {sl4 : Array (Option Value)} {oc4 kV4 dc4 pm4 cd4 ct4 : Value}
    {f5 : Addr} {od5 an5 : Option Addr} {sl5 : Array (Option Value)} {oc5 kV5 dc5 pm5 cd5 ct5 : Value}
    {f6 : Addr} {od6 an6 : Option Addr} {sl6 : Array (Option Value)} {oc6 kV6 dc6 pm6 cd6 ct6 : Value}
    {f7 : Addr} {od7 an7 : Option Addr} {sl7 : Array (Option Value)} {oc7 kV7 dc7 pm7 cd7 ct7 : Value}
    {f8 : Addr} {od8 an8 : Option Addr} {sl8 : Array (Option Value)} {oc8 kV8 dc8 pm8 cd8 ct8 : Value}
    {f9 : Addr} {od9 an9 : Option Addr} {sl9 : Array (Option Value)} {oc9 kV9 dc9 pm9 cd9 ct9 : Value}
    {f10 : Addr} {od10 an10 : Option Addr} {sl10 : Array (Option Value)} {oc10 kV10 dc10 pm10 cd10 ct10 : Value}
    {f11 : Addr} {od11 an11 : Option Addr} {sl11 : Array (Option Value)} {oc11 kV11 dc11 pm11 cd11 ct11 : Value}
    {f12 : Addr} {od12 an12 : Option Addr} {sl12 : Array (Option Value)} {oc12 kV12 dc12 pm12 cd12 ct12 : Value}
    {f13 : Addr} {od13 an13 : Option Addr} {sl13 : Array (Option Value)} {oc13 kV13 dc13 pm13 cd13 ct13 : Value}
    {f14 : Addr} {od14 an14 : Option Addr} {sl14 : Array (Option Value)} {oc14 kV14 dc14 pm14 cd14 ct14 : Value}
    {f15 : Addr} {od15 an15 : Option Addr} {sl15 : Array (Option Value)} {oc15 kV15 dc15 pm15 cd15 ct15 : Value}
    {f16 : Addr} {od16 an16 : Option Addr} {sl16 : Array (Option Value)} {oc16 kV16 dc16 pm16 cd16 ct16 : Value}
    {f17 : Addr} {od17 an17 : Option Addr} {sl17 : Array (Option Value)} {oc17 kV17 dc17 pm17 cd17 ct17 : Value}
    {f18 : Addr} {od18 an18 : Option Addr} {sl18 : Array (Option Value)} {oc18 kV18 dc18 pm18 cd18 ct18 : Value}
    {f19 : Addr} {od19 an19 : Option Addr} {sl19 : Array (Option Value)} {oc19 kV19 dc19 pm19 cd19 ct19 : Value}
    {f20 : Addr} {od20 an20 : Option Addr} {sl20 : Array (Option Value)} {oc20 kV20 dc20 pm20 cd20 ct20 : Value}
    {f21 : Addr} {od21 an21 : Option Addr} {sl21 : Array (Option Value)} {oc21 kV21 dc21 pm21 cd21 ct21 : Value}
    {f22 : Addr} {od22 an22 : Option Addr} {sl22 : Array (Option Value)} {oc22 kV22 dc22 pm22 cd22 ct22 : Value}
    {f23 : Addr} {od23 an23 : Option Addr} {sl23 : Array (Option Value)} {oc23 kV23 dc23 pm23 cd23 ct23 : Value}
    {f24 : Addr} {od24 an24 : Option Addr} {sl24 : Array (Option Value)} {oc24 kV24 dc24 pm24 cd24 ct24 : Value}
    {f25 : Addr} {od25 an25 : Option Addr} {sl25 : Array (Option Value)} {oc25 kV25 dc25 pm25 cd25 ct25 : Value}
    {f26 : Addr} {od26 an26 : Option Addr} {sl26 : Array (Option Value)} {oc26 kV26 dc26 pm26 cd26 ct26 : Value}
    {f27 : Addr} {od27 an27 : Option Addr} {sl27 : Array (Option Value)} {oc27 kV27 dc27 pm27 cd27 ct27 : Value}
    {f28 : Addr} {od28 an28 : Option Addr} {sl28 : Array (Option Value)} {oc28 kV28 dc28 pm28 cd28 ct28 : Value}
    {f29 : Addr} {od29 an29 : Option Addr} {sl29 : Array (Option Value)} {oc29 kV29 dc29 pm29 cd29 ct29 : Value}
    {f30 : Addr} {od30 an30 : Option Addr} {sl30 : Array (Option Value)} {oc30 kV30 dc30 pm30 cd30 ct30 : Value}
    {g_CK___init__ : Addr} {od_CK___init__ an_CK___init__ : Option Addr} {sl_CK___init__ : Array (Option Value)} {oc_CK___init__ kV_CK___init__ dc_CK___init__ pm_CK___init__ cd_CK___init__ ct_CK___init__ : Value}
    {p_CK_of : Addr} {rest_CK_of : List Value}
    {g_CK_of : Addr} {od_CK_of an_CK_of : Option Addr} {sl_CK_of : Array (Option Value)} {oc_CK_of kV_CK_of dc_CK_of pm_CK_of cd_CK_of ct_CK_of : Value}
    {g_CW___init__ : Addr} {od_CW___init__ an_CW___init__ : Option Addr} {sl_CW___init__ : Array (Option Value)} {oc_CW___init__ kV_CW___init__ dc_CW___init__ pm_CW___init__ cd_CW___init__ ct_CW___init__ : Value}
    {g_CW___contains__ : Addr} {od_CW___contains__ an_CW___contains__ : Option Addr} {sl_CW___contains__ : Array (Option Value)} {oc_CW___contains__ kV_CW___contains__ dc_CW___contains__ pm_CW___contains__ cd_CW___contains__ ct_CW___contains__ : Value}
    {g_CW___getitem__ : Addr} {od_CW___getitem__ an_CW___getitem__ : Option Addr} {sl_CW___getitem__ : Array (Option Value)} {oc_CW___getitem__ kV_CW___getitem__ dc_CW___getitem__ pm_CW___getitem__ cd_CW___getitem__ ct_CW___getitem__ : Value}
    {p_CW_of : Addr} {rest_CW_of : List Value}
    {g_CW_of : Addr} {od_CW_of an_CW_of : Option Addr} {sl_CW_of : Array (Option Value)} {oc_CW_of kV_CW_of dc_CW_of pm_CW_of cd_CW_of ct_CW_of : Value}
    {g_CS_late_of : Addr} {od_CS_late_of an_CS_late_of : Option Addr} {sl_CS_late_of : Array (Option Value)} {oc_CS_late_of kV_CS_late_of dc_CS_late_of pm_CS_late_of cd_CS_late_of ct_CS_late_of : Value}
    {g_CQ___add__ : Addr} {od_CQ___add__ an_CQ___add__ : Option Addr} {sl_CQ___add__ : Array (Option Value)} {oc_CQ___add__ kV_CQ___add__ dc_CQ___add__ pm_CQ___add__ cd_CQ___add__ ct_CQ___add__ : Value}
    {g_CQ___radd__ : Addr} {od_CQ___radd__ an_CQ___radd__ : Option Addr} {sl_CQ___radd__ : Array (Option Value)} {oc_CQ___radd__ kV_CQ___radd__ dc_CQ___radd__ pm_CQ___radd__ cd_CQ___radd__ ct_CQ___radd__ : Value}
    {g_CQ___lt__ : Addr} {od_CQ___lt__ an_CQ___lt__ : Option Addr} {sl_CQ___lt__ : Array (Option Value)} {oc_CQ___lt__ kV_CQ___lt__ dc_CQ___lt__ pm_CQ___lt__ cd_CQ___lt__ ct_CQ___lt__ : Value}
    {g_CQ___gt__ : Addr} {od_CQ___gt__ an_CQ___gt__ : Option Addr} {sl_CQ___gt__ : Array (Option Value)} {oc_CQ___gt__ kV_CQ___gt__ dc_CQ___gt__ pm_CQ___gt__ cd_CQ___gt__ ct_CQ___gt__ : Value}
    {T_CS___init__ : Addr} {odT_CS___init__ : Option Addr} {slT_CS___init__ : Array (Option Value)} {ocT_CS___init__ : Value} {nT_CS___init__ : Nat} {t_CS___init__0 t_CS___init__1 t_CS___init__2 : Tok}
    {g_CS___init__ : Addr} {od_CS___init__ an_CS___init__ : Option Addr} {sl_CS___init__ : Array (Option Value)} {oc_CS___init__ kV_CS___init__ dc_CS___init__ pm_CS___init__ cd_CS___init__ ct_CS___init__ : Value}
    {T_CQ___init__ : Addr} {odT_CQ___init__ : Option Addr} {slT_CQ___init__ : Array (Option Value)} {ocT_CQ___init__ : Value} {nT_CQ___init__ : Nat} {t_CQ___init__0 : Tok}
    {g_CQ___init__ : Addr} {od_CQ___init__ an_CQ___init__ : Option Addr} {sl_CQ___init__ : Array (Option Value)} {oc_CQ___init__ kV_CQ___init__ dc_CQ___init__ pm_CQ___init__ cd_CQ___init__ ct_CQ___init__ : Value}
    {fZB ccZB cdZB : Addr} {odZB anZB cldZB cddZB : Option Addr} {slZB cslZB ccsZB : Array (Option Value)} {ocZB kVZB dcZB pmZB ctZB clZB cclZB : Value} {vsZB : Array Value} {fileZB : Str} {tfZB : Tok}
    {fZC ccZC cdZC : Addr} {odZC anZC cldZC cddZC : Option Addr} {slZC cslZC ccsZC : Array (Option Value)} {ocZC kVZC dcZC pmZC ctZC clZC cclZC : Value} {vsZC : Array Value} {fileZC : Str} {tfZC : Tok}
    {fZM ccZM cdZM : Addr} {odZM anZM cldZM cddZM : Option Addr} {slZM cslZM ccsZM : Array (Option Value)} {ocZM kVZM dcZM pmZM ctZM clZM cclZM : Value} {vsZM : Array Value} {fileZM : Str} {tfZM : Tok}
    {fZN ccZN cdZN : Addr} {odZN anZN cldZN cddZN : Option Addr} {slZN cslZN ccsZN : Array (Option Value)} {ocZN kVZN dcZN pmZN ctZN clZN cclZN : Value} {vsZN : Array Value} {fileZN : Str} {tfZN : Tok}
    {fZNa ccZNa cdZNa : Addr} {odZNa anZNa cldZNa cddZNa : Option Addr} {slZNa cslZNa ccsZNa : Array (Option Value)} {ocZNa kVZNa dcZNa pmZNa ctZNa clZNa cclZNa : Value} {vsZNa : Array Value} {fileZNa : Str} {tfZNa : Tok}
    {fZSp ccZSp cdZSp : Addr} {odZSp anZSp cldZSp cddZSp : Option Addr} {slZSp cslZSp ccsZSp : Array (Option Value)} {ocZSp kVZSp dcZSp pmZSp ctZSp clZSp cclZSp : Value} {vsZSp : Array Value} {fileZSp : Str} {tfZSp : Tok}
    {fZCr ccZCr cdZCr : Addr} {odZCr anZCr cldZCr cddZCr : Option Addr} {slZCr cslZCr ccsZCr : Array (Option Value)} {ocZCr kVZCr dcZCr pmZCr ctZCr clZCr cclZCr : Value} {vsZCr : Array Value} {fileZCr : Str} {tfZCr : Tok}
    {fZNw ccZNw cdZNw : Addr} {odZNw anZNw cldZNw cddZNw : Option Addr} {slZNw cslZNw ccsZNw : Array (Option Value)} {ocZNw kVZNw dcZNw pmZNw ctZNw clZNw cclZNw : Value} {vsZNw : Array Value} {fileZNw : Str} {tfZNw : Tok}
    {fZQ ccZQ cdZQ : Addr} {odZQ anZQ cldZQ cddZQ : Option Addr} {slZQ cslZQ ccsZQ : Array (Option Value)} {ocZQ kVZQ dcZQ pmZQ ctZQ clZQ cclZQ : Value} {vsZQ : Array Value} {fileZQ : Str} {tfZQ : Tok}
    {fZRe ccZRe cdZRe : Addr} {odZRe anZRe cldZRe cddZRe : Option Addr} {slZRe cslZRe ccsZRe : Array (Option Value)} {ocZRe kVZRe dcZRe pmZRe ctZRe clZRe cclZRe : Value} {vsZRe : Array Value} {fileZRe : Str} {tfZRe : Tok}
    {fZSe ccZSe cdZSe : Addr} {odZSe anZSe cldZSe cddZSe : Option Addr} {slZSe cslZSe ccsZSe : Array (Option Value)} {ocZSe kVZSe dcZSe pmZSe ctZSe clZSe cclZSe : Value} {vsZSe : Array Value} {fileZSe : Str} {tfZSe : Tok}
    {fZCo ccZCo cdZCo : Addr} {odZCo anZCo cldZCo cddZCo : Option Addr} {slZCo cslZCo ccsZCo : Array (Option Value)} {ocZCo kVZCo dcZCo pmZCo ctZCo clZCo cclZCo : Value} {vsZCo : Array Value} {fileZCo : Str} {tfZCo : Tok}
    {fZFe ccZFe cdZFe : Addr} {odZFe anZFe cldZFe cddZFe : Option Addr} {slZFe cslZFe ccsZFe : Array (Option Value)} {ocZFe kVZFe dcZFe pmZFe ctZFe clZFe cclZFe : Value} {vsZFe : Array Value} {fileZFe : Str} {tfZFe : Tok}
    {fZT ccZT cdZT : Addr} {odZT anZT cldZT cddZT : Option Addr} {slZT cslZT ccsZT : Array (Option Value)} {ocZT kVZT dcZT pmZT ctZT clZT cclZT : Value} {vsZT : Array Value} {fileZT : Str} {tfZT : Tok}
    {tMS tMC tMI tMF : Tok}
    {aW : Addr} {odW : Option Addr} {slW : Array (Option Value)} {nW : Nat} {wt0 wt1 wt2 wt3 wt4 wt5 wt6 wt7 wt8 wt9 tSG tSP tMW : Tok}
    {tMCo tMFe : Tok}
    (a1 : PySem.W.nsIn K mainGlobals "is_integer" = some (some (.ref f1)))
    (l1 : K.lookup f1 = some ⟨oc1, od1, .func (PySem.W.fnOf "is_integer" "is_integer" (defArgs s_is_integer) (defBody s_is_integer) (defScope s_is_integer) .none kV1 dc1 pm1 an1 cd1 ct1), sl1⟩)
    (c1 : PySem.W.codeIn K cd1 "is_integer" = true)
    (k1 : PySem.W.keepIn K (.ref f1) = true)
    (a2 : PySem.W.nsIn K mainGlobals "is_within" = some (some (.ref f2)))
    (l2 : K.lookup f2 = some ⟨oc2, od2, .func (PySem.W.fnOf "is_within" "is_within" (defArgs s_is_within) (defBody s_is_within) (defScope s_is_within) .none kV2 dc2 pm2 an2 cd2 ct2), sl2⟩)
    (c2 : PySem.W.codeIn K cd2 "is_within" = true)
    (k2 : PySem.W.keepIn K (.ref f2) = true)
    (a3 : PySem.W.nsIn K mainGlobals "is_size" = some (some (.ref f3)))
    (l3 : K.lookup f3 = some ⟨oc3, od3, .func (PySem.W.fnOf "is_size" "is_size" (defArgs s_is_size) (defBody s_is_size) (defScope s_is_size) .none kV3 dc3 pm3 an3 cd3 ct3), sl3⟩)
    (c3 : PySem.W.codeIn K cd3 "is_size" = true)
    (k3 : PySem.W.keepIn K (.ref f3) = true)
    (a4 : PySem.W.nsIn K mainGlobals "need_size" = some (some (.ref f4)))
    (l4 : K.lookup f4 = some ⟨oc4, od4, .func (PySem.W.fnOf "need_size" "need_size" (defArgs s_need_size) (defBody s_need_size) (defScope s_need_size) .none kV4 dc4 pm4 an4 cd4 ct4), sl4⟩)
    (c4 : PySem.W.codeIn K cd4 "need_size" = true)
    (k4 : PySem.W.keepIn K (.ref f4) = true)
    (a5 : PySem.W.nsIn K mainGlobals "need_few" = some (some (.ref f5)))
    (l5 : K.lookup f5 = some ⟨oc5, od5, .func (PySem.W.fnOf "need_few" "need_few" (defArgs s_need_few) (defBody s_need_few) (defScope s_need_few) .none kV5 dc5 pm5 an5 cd5 ct5), sl5⟩)
    (c5 : PySem.W.codeIn K cd5 "need_few" = true)
    (k5 : PySem.W.keepIn K (.ref f5) = true)
    (a6 : PySem.W.nsIn K mainGlobals "ends_of" = some (some (.ref f6)))
    (l6 : K.lookup f6 = some ⟨oc6, od6, .func (PySem.W.fnOf "ends_of" "ends_of" (defArgs s_ends_of) (defBody s_ends_of) (defScope s_ends_of) .none kV6 dc6 pm6 an6 cd6 ct6), sl6⟩)
    (c6 : PySem.W.codeIn K cd6 "ends_of" = true)
    (k6 : PySem.W.keepIn K (.ref f6) = true)
    (a7 : PySem.W.nsIn K mainGlobals "is_name" = some (some (.ref f7)))
    (l7 : K.lookup f7 = some ⟨oc7, od7, .func (PySem.W.fnOf "is_name" "is_name" (defArgs s_is_name) (defBody s_is_name) (defScope s_is_name) .none kV7 dc7 pm7 an7 cd7 ct7), sl7⟩)
    (c7 : PySem.W.codeIn K cd7 "is_name" = true)
    (k7 : PySem.W.keepIn K (.ref f7) = true)
    (a8 : PySem.W.nsIn K mainGlobals "is_speed" = some (some (.ref f8)))
    (l8 : K.lookup f8 = some ⟨oc8, od8, .func (PySem.W.fnOf "is_speed" "is_speed" (defArgs s_is_speed) (defBody s_is_speed) (defScope s_is_speed) .none kV8 dc8 pm8 an8 cd8 ct8), sl8⟩)
    (c8 : PySem.W.codeIn K cd8 "is_speed" = true)
    (k8 : PySem.W.keepIn K (.ref f8) = true)
    (a9 : PySem.W.nsIn K mainGlobals "need_speed" = some (some (.ref f9)))
    (l9 : K.lookup f9 = some ⟨oc9, od9, .func (PySem.W.fnOf "need_speed" "need_speed" (defArgs s_need_speed) (defBody s_need_speed) (defScope s_need_speed) .none kV9 dc9 pm9 an9 cd9 ct9), sl9⟩)
    (c9 : PySem.W.codeIn K cd9 "need_speed" = true)
    (k9 : PySem.W.keepIn K (.ref f9) = true)
    (a10 : PySem.W.nsIn K mainGlobals "need_speeds" = some (some (.ref f10)))
    (l10 : K.lookup f10 = some ⟨oc10, od10, .func (PySem.W.fnOf "need_speeds" "need_speeds" (defArgs s_need_speeds) (defBody s_need_speeds) (defScope s_need_speeds) .none kV10 dc10 pm10 an10 cd10 ct10), sl10⟩)
    (c10 : PySem.W.codeIn K cd10 "need_speeds" = true)
    (k10 : PySem.W.keepIn K (.ref f10) = true)
    (a11 : PySem.W.nsIn K mainGlobals "first_with" = some (some (.ref f11)))
    (l11 : K.lookup f11 = some ⟨oc11, od11, .func (PySem.W.fnOf "first_with" "first_with" (defArgs s_first_with) (defBody s_first_with) (defScope s_first_with) .none kV11 dc11 pm11 an11 cd11 ct11), sl11⟩)
    (c11 : PySem.W.codeIn K cd11 "first_with" = true)
    (k11 : PySem.W.keepIn K (.ref f11) = true)
    (a12 : PySem.W.nsIn K mainGlobals "common" = some (some (.ref f12)))
    (l12 : K.lookup f12 = some ⟨oc12, od12, .func (PySem.W.fnOf "common" "common" (defArgs s_common) (defBody s_common) (defScope s_common) .none kV12 dc12 pm12 an12 cd12 ct12), sl12⟩)
    (c12 : PySem.W.codeIn K cd12 "common" = true)
    (k12 : PySem.W.keepIn K (.ref f12) = true)
    (a13 : PySem.W.nsIn K mainGlobals "told_of" = some (some (.ref f13)))
    (l13 : K.lookup f13 = some ⟨oc13, od13, .func (PySem.W.fnOf "told_of" "told_of" (defArgs s_told_of) (defBody s_told_of) (defScope s_told_of) .none kV13 dc13 pm13 an13 cd13 ct13), sl13⟩)
    (c13 : PySem.W.codeIn K cd13 "told_of" = true)
    (k13 : PySem.W.keepIn K (.ref f13) = true)
    (a14 : PySem.W.nsIn K mainGlobals "need_spot" = some (some (.ref f14)))
    (l14 : K.lookup f14 = some ⟨oc14, od14, .func (PySem.W.fnOf "need_spot" "need_spot" (defArgs s_need_spot) (defBody s_need_spot) (defScope s_need_spot) .none kV14 dc14 pm14 an14 cd14 ct14), sl14⟩)
    (c14 : PySem.W.codeIn K cd14 "need_spot" = true)
    (k14 : PySem.W.keepIn K (.ref f14) = true)
    (a15 : PySem.W.nsIn K mainGlobals "need_list" = some (some (.ref f15)))
    (l15 : K.lookup f15 = some ⟨oc15, od15, .func (PySem.W.fnOf "need_list" "need_list" (defArgs s_need_list) (defBody s_need_list) (defScope s_need_list) .none kV15 dc15 pm15 an15 cd15 ct15), sl15⟩)
    (c15 : PySem.W.codeIn K cd15 "need_list" = true)
    (k15 : PySem.W.keepIn K (.ref f15) = true)
    (a16 : PySem.W.nsIn K mainGlobals "rows_of" = some (some (.ref f16)))
    (l16 : K.lookup f16 = some ⟨oc16, od16, .func (PySem.W.fnOf "rows_of" "rows_of" (defArgs s_rows_of) (defBody s_rows_of) (defScope s_rows_of) .none kV16 dc16 pm16 an16 cd16 ct16), sl16⟩)
    (c16 : PySem.W.codeIn K cd16 "rows_of" = true)
    (k16 : PySem.W.keepIn K (.ref f16) = true)
    (a17 : PySem.W.nsIn K mainGlobals "place_of_greatest" = some (some (.ref f17)))
    (l17 : K.lookup f17 = some ⟨oc17, od17, .func (PySem.W.fnOf "place_of_greatest" "place_of_greatest" (defArgs s_place_of_greatest) (defBody s_place_of_greatest) (defScope s_place_of_greatest) .none kV17 dc17 pm17 an17 cd17 ct17), sl17⟩)
    (c17 : PySem.W.codeIn K cd17 "place_of_greatest" = true)
    (k17 : PySem.W.keepIn K (.ref f17) = true)
    (a18 : PySem.W.nsIn K mainGlobals "lateness" = some (some (.ref f18)))
    (l18 : K.lookup f18 = some ⟨oc18, od18, .func (PySem.W.fnOf "lateness" "lateness" (defArgs s_lateness) (defBody s_lateness) (defScope s_lateness) .none kV18 dc18 pm18 an18 cd18 ct18), sl18⟩)
    (c18 : PySem.W.codeIn K cd18 "lateness" = true)
    (k18 : PySem.W.keepIn K (.ref f18) = true)
    (a19 : PySem.W.nsIn K mainGlobals "_law_pen" = some (some (.ref f19)))
    (l19 : K.lookup f19 = some ⟨oc19, od19, .func (PySem.W.fnOf "_law_pen" "_law_pen" (defArgs s__law_pen) (defBody s__law_pen) (defScope s__law_pen) .none kV19 dc19 pm19 an19 cd19 ct19), sl19⟩)
    (c19 : PySem.W.codeIn K cd19 "_law_pen" = true)
    (k19 : PySem.W.keepIn K (.ref f19) = true)
    (a20 : PySem.W.nsIn K mainGlobals "_law_draw" = some (some (.ref f20)))
    (l20 : K.lookup f20 = some ⟨oc20, od20, .func (PySem.W.fnOf "_law_draw" "_law_draw" (defArgs s__law_draw) (defBody s__law_draw) (defScope s__law_draw) .none kV20 dc20 pm20 an20 cd20 ct20), sl20⟩)
    (c20 : PySem.W.codeIn K cd20 "_law_draw" = true)
    (k20 : PySem.W.keepIn K (.ref f20) = true)
    (a21 : PySem.W.nsIn K mainGlobals "_law_pick" = some (some (.ref f21)))
    (l21 : K.lookup f21 = some ⟨oc21, od21, .func (PySem.W.fnOf "_law_pick" "_law_pick" (defArgs s__law_pick) (defBody s__law_pick) (defScope s__law_pick) .none kV21 dc21 pm21 an21 cd21 ct21), sl21⟩)
    (c21 : PySem.W.codeIn K cd21 "_law_pick" = true)
    (k21 : PySem.W.keepIn K (.ref f21) = true)
    (a22 : PySem.W.nsIn K mainGlobals "_law_setting" = some (some (.ref f22)))
    (l22 : K.lookup f22 = some ⟨oc22, od22, .func (PySem.W.fnOf "_law_setting" "_law_setting" (defArgs s__law_setting) (defBody s__law_setting) (defScope s__law_setting) .none kV22 dc22 pm22 an22 cd22 ct22), sl22⟩)
    (c22 : PySem.W.codeIn K cd22 "_law_setting" = true)
    (k22 : PySem.W.keepIn K (.ref f22) = true)
    (a23 : PySem.W.nsIn K mainGlobals "_law_common" = some (some (.ref f23)))
    (l23 : K.lookup f23 = some ⟨oc23, od23, .func (PySem.W.fnOf "_law_common" "_law_common" (defArgs s__law_common) (defBody s__law_common) (defScope s__law_common) .none kV23 dc23 pm23 an23 cd23 ct23), sl23⟩)
    (c23 : PySem.W.codeIn K cd23 "_law_common" = true)
    (k23 : PySem.W.keepIn K (.ref f23) = true)
    (a24 : PySem.W.nsIn K mainGlobals "_law_offered" = some (some (.ref f24)))
    (l24 : K.lookup f24 = some ⟨oc24, od24, .func (PySem.W.fnOf "_law_offered" "_law_offered" (defArgs s__law_offered) (defBody s__law_offered) (defScope s__law_offered) .none kV24 dc24 pm24 an24 cd24 ct24), sl24⟩)
    (c24 : PySem.W.codeIn K cd24 "_law_offered" = true)
    (k24 : PySem.W.keepIn K (.ref f24) = true)
    (a25 : PySem.W.nsIn K mainGlobals "_law_played" = some (some (.ref f25)))
    (l25 : K.lookup f25 = some ⟨oc25, od25, .func (PySem.W.fnOf "_law_played" "_law_played" (defArgs s__law_played) (defBody s__law_played) (defScope s__law_played) .none kV25 dc25 pm25 an25 cd25 ct25), sl25⟩)
    (c25 : PySem.W.codeIn K cd25 "_law_played" = true)
    (k25 : PySem.W.keepIn K (.ref f25) = true)
    (a26 : PySem.W.nsIn K mainGlobals "_law_is_later" = some (some (.ref f26)))
    (l26 : K.lookup f26 = some ⟨oc26, od26, .func (PySem.W.fnOf "_law_is_later" "_law_is_later" (defArgs s__law_is_later) (defBody s__law_is_later) (defScope s__law_is_later) .none kV26 dc26 pm26 an26 cd26 ct26), sl26⟩)
    (c26 : PySem.W.codeIn K cd26 "_law_is_later" = true)
    (k26 : PySem.W.keepIn K (.ref f26) = true)
    (a27 : PySem.W.nsIn K mainGlobals "_law_all_costs" = some (some (.ref f27)))
    (l27 : K.lookup f27 = some ⟨oc27, od27, .func (PySem.W.fnOf "_law_all_costs" "_law_all_costs" (defArgs s__law_all_costs) (defBody s__law_all_costs) (defScope s__law_all_costs) .none kV27 dc27 pm27 an27 cd27 ct27), sl27⟩)
    (c27 : PySem.W.codeIn K cd27 "_law_all_costs" = true)
    (k27 : PySem.W.keepIn K (.ref f27) = true)
    (a28 : PySem.W.nsIn K mainGlobals "_law_worst" = some (some (.ref f28)))
    (l28 : K.lookup f28 = some ⟨oc28, od28, .func (PySem.W.fnOf "_law_worst" "_law_worst" (defArgs s__law_worst) (defBody s__law_worst) (defScope s__law_worst) .none kV28 dc28 pm28 an28 cd28 ct28), sl28⟩)
    (c28 : PySem.W.codeIn K cd28 "_law_worst" = true)
    (k28 : PySem.W.keepIn K (.ref f28) = true)
    (a29 : PySem.W.nsIn K mainGlobals "_law_right" = some (some (.ref f29)))
    (l29 : K.lookup f29 = some ⟨oc29, od29, .func (PySem.W.fnOf "_law_right" "_law_right" (defArgs s__law_right) (defBody s__law_right) (defScope s__law_right) .none kV29 dc29 pm29 an29 cd29 ct29), sl29⟩)
    (c29 : PySem.W.codeIn K cd29 "_law_right" = true)
    (k29 : PySem.W.keepIn K (.ref f29) = true)
    (a30 : PySem.W.nsIn K mainGlobals "law" = some (some (.ref f30)))
    (l30 : K.lookup f30 = some ⟨oc30, od30, .func (PySem.W.fnOf "law" "law" (defArgs s_law) (defBody s_law) (defScope s_law) .none kV30 dc30 pm30 an30 cd30 ct30), sl30⟩)
    (c30 : PySem.W.codeIn K cd30 "law" = true)
    (k30 : PySem.W.keepIn K (.ref f30) = true)
    (a_CK : PySem.W.nsIn K mainGlobals "Chunks" = some (some (.ref CK)))
    (a_CK___init__ : PySem.W.findIn K (.ref CK) "__init__" = some (some (.ref g_CK___init__)))
    (l_CK___init__ : K.lookup g_CK___init__ = some ⟨oc_CK___init__, od_CK___init__, .func (PySem.W.fnOf "__init__" "Chunks.__init__" (defArgs s_Chunks___init__) (defBody s_Chunks___init__) (defScope s_Chunks___init__) .none kV_CK___init__ dc_CK___init__ pm_CK___init__ an_CK___init__ cd_CK___init__ ct_CK___init__), sl_CK___init__⟩)
    (c_CK___init__ : PySem.W.codeIn K cd_CK___init__ "Chunks.__init__" = true)
    (k_CK___init__ : PySem.W.keepIn K (.ref g_CK___init__) = true)
    (i_CK___init__ : PySem.W.isFn K (.ref g_CK___init__) = true)
    (mk_CK : PySem.W.makesIn K CK = true)
    (pg_CK : PySem.W.plainGet K CK Str.empty = true)
    (hd_CK : PySem.W.hasDictIn K CK = true)
    (po_CK : PySem.W.plainOver K CK = true)
    (sa_CK : PySem.W.findIn K (.ref CK) "__setattr__" = some (some (.builtin "object.__setattr__")))
    (kc_CK : PySem.W.keepIn K (.ref CK) = true)
    (ya_CK : PySem.W.findIn K (.ref CK) "__class__" = some (some (.builtin "object.__class__")))
    (yb : PySem.W.specialIn K (.builtin "object.__class__") "__get__" = some (some (.builtin "getset_descriptor.__get__")))
    (yc : PySem.W.takesIn K (.builtin "object.__class__") = some true)
    (yd_CK : PySem.W.mroIn K CK (.type "object") = some true)
    (yk_CK : PySem.W.kitOne K (.ref CK) (.ref CK) = some true)
    (n_CK_sizes : PySem.W.findIn K (.ref CK) "sizes" = some none)
    (n_CK_ends : PySem.W.findIn K (.ref CK) "ends" = some none)
    (n_CK_total : PySem.W.findIn K (.ref CK) "total" = some none)
    (n_CK_rests : PySem.W.findIn K (.ref CK) "rests" = some none)
    (cf1_CK : (numTys.all fun T => PySem.W.notFirst K CK (.type T)) = true)
    (cf2_CK : PySem.W.notFirst K CK (.ref CK) = true)
    (cf3_CK : (numTys.all fun T => decide (PySem.W.subIn K (.ref CK) (.type T) = some false)) = true)
    (cf5_CK : PySem.W.findIn K (.ref CK) "__ne__" = some (some (.builtin "object.__ne__")))
    (sr_CK : PySem.W.readsIn K CK (.type "type") = true)
    (sg_CK : PySem.W.specialIn K (.ref CK) "__getattribute__" = some (some (.builtin "type.__getattribute__")))
    (sf_CK_of : PySem.W.findCls K (.ref CK) (.type "type") "of" = some (.get (.builtin "staticmethod.__get__") (.ref p_CK_of) .none (.ref CK)))
    (sc_CK_of : PySem.W.recIn K p_CK_of "staticmethod" = some (.ref g_CK_of :: rest_CK_of))
    (l_CK_of : K.lookup g_CK_of = some ⟨oc_CK_of, od_CK_of, .func (PySem.W.fnOf "of" "Chunks.of" (defArgs s_Chunks_of) (defBody s_Chunks_of) (defScope s_Chunks_of) .none kV_CK_of dc_CK_of pm_CK_of an_CK_of cd_CK_of ct_CK_of), sl_CK_of⟩)
    (c_CK_of : PySem.W.codeIn K cd_CK_of "Chunks.of" = true)
    (k_CK_of : PySem.W.keepIn K (.ref g_CK_of) = true)
    (a_CW : PySem.W.nsIn K mainGlobals "Crew" = some (some (.ref CW)))
    (a_CW___init__ : PySem.W.findIn K (.ref CW) "__init__" = some (some (.ref g_CW___init__)))
    (l_CW___init__ : K.lookup g_CW___init__ = some ⟨oc_CW___init__, od_CW___init__, .func (PySem.W.fnOf "__init__" "Crew.__init__" (defArgs s_Crew___init__) (defBody s_Crew___init__) (defScope s_Crew___init__) .none kV_CW___init__ dc_CW___init__ pm_CW___init__ an_CW___init__ cd_CW___init__ ct_CW___init__), sl_CW___init__⟩)
    (c_CW___init__ : PySem.W.codeIn K cd_CW___init__ "Crew.__init__" = true)
    (k_CW___init__ : PySem.W.keepIn K (.ref g_CW___init__) = true)
    (i_CW___init__ : PySem.W.isFn K (.ref g_CW___init__) = true)
    (a_CW___contains__ : PySem.W.findIn K (.ref CW) "__contains__" = some (some (.ref g_CW___contains__)))
    (l_CW___contains__ : K.lookup g_CW___contains__ = some ⟨oc_CW___contains__, od_CW___contains__, .func (PySem.W.fnOf "__contains__" "Crew.__contains__" (defArgs s_Crew___contains__) (defBody s_Crew___contains__) (defScope s_Crew___contains__) .none kV_CW___contains__ dc_CW___contains__ pm_CW___contains__ an_CW___contains__ cd_CW___contains__ ct_CW___contains__), sl_CW___contains__⟩)
    (c_CW___contains__ : PySem.W.codeIn K cd_CW___contains__ "Crew.__contains__" = true)
    (k_CW___contains__ : PySem.W.keepIn K (.ref g_CW___contains__) = true)
    (i_CW___contains__ : PySem.W.isFn K (.ref g_CW___contains__) = true)
    (a_CW___getitem__ : PySem.W.findIn K (.ref CW) "__getitem__" = some (some (.ref g_CW___getitem__)))
    (l_CW___getitem__ : K.lookup g_CW___getitem__ = some ⟨oc_CW___getitem__, od_CW___getitem__, .func (PySem.W.fnOf "__getitem__" "Crew.__getitem__" (defArgs s_Crew___getitem__) (defBody s_Crew___getitem__) (defScope s_Crew___getitem__) .none kV_CW___getitem__ dc_CW___getitem__ pm_CW___getitem__ an_CW___getitem__ cd_CW___getitem__ ct_CW___getitem__), sl_CW___getitem__⟩)
    (c_CW___getitem__ : PySem.W.codeIn K cd_CW___getitem__ "Crew.__getitem__" = true)
    (k_CW___getitem__ : PySem.W.keepIn K (.ref g_CW___getitem__) = true)
    (i_CW___getitem__ : PySem.W.isFn K (.ref g_CW___getitem__) = true)
    (mk_CW : PySem.W.makesIn K CW = true)
    (pg_CW : PySem.W.plainGet K CW Str.empty = true)
    (hd_CW : PySem.W.hasDictIn K CW = true)
    (po_CW : PySem.W.plainOver K CW = true)
    (sa_CW : PySem.W.findIn K (.ref CW) "__setattr__" = some (some (.builtin "object.__setattr__")))
    (kc_CW : PySem.W.keepIn K (.ref CW) = true)
    (ya_CW : PySem.W.findIn K (.ref CW) "__class__" = some (some (.builtin "object.__class__")))
    (yd_CW : PySem.W.mroIn K CW (.type "object") = some true)
    (yk_CW : PySem.W.kitOne K (.ref CW) (.ref CW) = some true)
    (n_CW_own_speeds : PySem.W.findIn K (.ref CW) "own_speeds" = some none)
    (n_CW_workers : PySem.W.findIn K (.ref CW) "workers" = some none)
    (n_CW_speed : PySem.W.findIn K (.ref CW) "speed" = some none)
    (n_CW_slowest : PySem.W.findIn K (.ref CW) "slowest" = some none)
    (n_CW_fastest : PySem.W.findIn K (.ref CW) "fastest" = some none)
    (sr_CW : PySem.W.readsIn K CW (.type "type") = true)
    (sg_CW : PySem.W.specialIn K (.ref CW) "__getattribute__" = some (some (.builtin "type.__getattribute__")))
    (sf_CW_of : PySem.W.findCls K (.ref CW) (.type "type") "of" = some (.get (.builtin "staticmethod.__get__") (.ref p_CW_of) .none (.ref CW)))
    (sc_CW_of : PySem.W.recIn K p_CW_of "staticmethod" = some (.ref g_CW_of :: rest_CW_of))
    (l_CW_of : K.lookup g_CW_of = some ⟨oc_CW_of, od_CW_of, .func (PySem.W.fnOf "of" "Crew.of" (defArgs s_Crew_of) (defBody s_Crew_of) (defScope s_Crew_of) .none kV_CW_of dc_CW_of pm_CW_of an_CW_of cd_CW_of ct_CW_of), sl_CW_of⟩)
    (c_CW_of : PySem.W.codeIn K cd_CW_of "Crew.of" = true)
    (k_CW_of : PySem.W.keepIn K (.ref g_CW_of) = true)
    (mk_CS : PySem.W.makesIn K CS = true)
    (a_CS : PySem.W.nsIn K mainGlobals "Setting" = some (some (.ref CS)))
    (a_CS_late_of : PySem.W.findIn K (.ref CS) "late_of" = some (some (.ref g_CS_late_of)))
    (l_CS_late_of : K.lookup g_CS_late_of = some ⟨oc_CS_late_of, od_CS_late_of, .func (PySem.W.fnOf "late_of" "Setting.late_of" (defArgs s_Setting_late_of) (defBody s_Setting_late_of) (defScope s_Setting_late_of) .none kV_CS_late_of dc_CS_late_of pm_CS_late_of an_CS_late_of cd_CS_late_of ct_CS_late_of), sl_CS_late_of⟩)
    (c_CS_late_of : PySem.W.codeIn K cd_CS_late_of "Setting.late_of" = true)
    (k_CS_late_of : PySem.W.keepIn K (.ref g_CS_late_of) = true)
    (i_CS_late_of : PySem.W.isFn K (.ref g_CS_late_of) = true)
    (pg_CS : PySem.W.plainGet K CS Str.empty = true)
    (hd_CS : PySem.W.hasDictIn K CS = true)
    (po_CS : PySem.W.plainOver K CS = true)
    (sa_CS : PySem.W.findIn K (.ref CS) "__setattr__" = some (some (.builtin "object.__setattr__")))
    (kc_CS : PySem.W.keepIn K (.ref CS) = true)
    (ya_CS : PySem.W.findIn K (.ref CS) "__class__" = some (some (.builtin "object.__class__")))
    (yd_CS : PySem.W.mroIn K CS (.type "object") = some true)
    (yk_CS : PySem.W.kitOne K (.ref CS) (.ref CS) = some true)
    (n_CS_crew : PySem.W.findIn K (.ref CS) "crew" = some none)
    (n_CS_least : PySem.W.findIn K (.ref CS) "least" = some none)
    (n_CS_most : PySem.W.findIn K (.ref CS) "most" = some none)
    (n_CS_fee : PySem.W.findIn K (.ref CS) "fee" = some none)
    (n_CS_own_slow : PySem.W.findIn K (.ref CS) "own_slow" = some none)
    (n_CS_own_fast : PySem.W.findIn K (.ref CS) "own_fast" = some none)
    (n_CS_lowest : PySem.W.findIn K (.ref CS) "lowest" = some none)
    (mk_CQ : PySem.W.makesIn K CQ = true)
    (a_CQ : PySem.W.nsIn K mainGlobals "Ratio" = some (some (.ref CQ)))
    (a_CQ___add__ : PySem.W.findIn K (.ref CQ) "__add__" = some (some (.ref g_CQ___add__)))
    (l_CQ___add__ : K.lookup g_CQ___add__ = some ⟨oc_CQ___add__, od_CQ___add__, .func (PySem.W.fnOf "__add__" "Ratio.__add__" (defArgs s_Ratio___add__) (defBody s_Ratio___add__) (defScope s_Ratio___add__) .none kV_CQ___add__ dc_CQ___add__ pm_CQ___add__ an_CQ___add__ cd_CQ___add__ ct_CQ___add__), sl_CQ___add__⟩)
    (c_CQ___add__ : PySem.W.codeIn K cd_CQ___add__ "Ratio.__add__" = true)
    (k_CQ___add__ : PySem.W.keepIn K (.ref g_CQ___add__) = true)
    (i_CQ___add__ : PySem.W.isFn K (.ref g_CQ___add__) = true)
    (a_CQ___radd__ : PySem.W.findIn K (.ref CQ) "__radd__" = some (some (.ref g_CQ___radd__)))
    (l_CQ___radd__ : K.lookup g_CQ___radd__ = some ⟨oc_CQ___radd__, od_CQ___radd__, .func (PySem.W.fnOf "__radd__" "Ratio.__radd__" (defArgs s_Ratio___radd__) (defBody s_Ratio___radd__) (defScope s_Ratio___radd__) .none kV_CQ___radd__ dc_CQ___radd__ pm_CQ___radd__ an_CQ___radd__ cd_CQ___radd__ ct_CQ___radd__), sl_CQ___radd__⟩)
    (c_CQ___radd__ : PySem.W.codeIn K cd_CQ___radd__ "Ratio.__radd__" = true)
    (k_CQ___radd__ : PySem.W.keepIn K (.ref g_CQ___radd__) = true)
    (i_CQ___radd__ : PySem.W.isFn K (.ref g_CQ___radd__) = true)
    (a_CQ___lt__ : PySem.W.findIn K (.ref CQ) "__lt__" = some (some (.ref g_CQ___lt__)))
    (l_CQ___lt__ : K.lookup g_CQ___lt__ = some ⟨oc_CQ___lt__, od_CQ___lt__, .func (PySem.W.fnOf "__lt__" "Ratio.__lt__" (defArgs s_Ratio___lt__) (defBody s_Ratio___lt__) (defScope s_Ratio___lt__) .none kV_CQ___lt__ dc_CQ___lt__ pm_CQ___lt__ an_CQ___lt__ cd_CQ___lt__ ct_CQ___lt__), sl_CQ___lt__⟩)
    (c_CQ___lt__ : PySem.W.codeIn K cd_CQ___lt__ "Ratio.__lt__" = true)
    (k_CQ___lt__ : PySem.W.keepIn K (.ref g_CQ___lt__) = true)
    (i_CQ___lt__ : PySem.W.isFn K (.ref g_CQ___lt__) = true)
    (a_CQ___gt__ : PySem.W.findIn K (.ref CQ) "__gt__" = some (some (.ref g_CQ___gt__)))
    (l_CQ___gt__ : K.lookup g_CQ___gt__ = some ⟨oc_CQ___gt__, od_CQ___gt__, .func (PySem.W.fnOf "__gt__" "Ratio.__gt__" (defArgs s_Ratio___gt__) (defBody s_Ratio___gt__) (defScope s_Ratio___gt__) .none kV_CQ___gt__ dc_CQ___gt__ pm_CQ___gt__ an_CQ___gt__ cd_CQ___gt__ ct_CQ___gt__), sl_CQ___gt__⟩)
    (c_CQ___gt__ : PySem.W.codeIn K cd_CQ___gt__ "Ratio.__gt__" = true)
    (k_CQ___gt__ : PySem.W.keepIn K (.ref g_CQ___gt__) = true)
    (i_CQ___gt__ : PySem.W.isFn K (.ref g_CQ___gt__) = true)
    (pg_CQ : PySem.W.plainGet K CQ Str.empty = true)
    (hd_CQ : PySem.W.hasDictIn K CQ = true)
    (po_CQ : PySem.W.plainOver K CQ = true)
    (sa_CQ : PySem.W.findIn K (.ref CQ) "__setattr__" = some (some (.builtin "object.__setattr__")))
    (kc_CQ : PySem.W.keepIn K (.ref CQ) = true)
    (ya_CQ : PySem.W.findIn K (.ref CQ) "__class__" = some (some (.builtin "object.__class__")))
    (yd_CQ : PySem.W.mroIn K CQ (.type "object") = some true)
    (yk_CQ : PySem.W.kitOne K (.ref CQ) (.ref CQ) = some true)
    (n_CQ_over : PySem.W.findIn K (.ref CQ) "over" = some none)
    (n_CQ_under : PySem.W.findIn K (.ref CQ) "under" = some none)
    (cf1_CQ : (numTys.all fun T => PySem.W.notFirst K CQ (.type T)) = true)
    (cf2_CQ : PySem.W.notFirst K CQ (.ref CQ) = true)
    (cf3_CQ : (numTys.all fun T => decide (PySem.W.subIn K (.ref CQ) (.type T) = some false)) = true)
    (cf5_CQ : PySem.W.findIn K (.ref CQ) "__ne__" = some (some (.builtin "object.__ne__")))
    (a_CS___init__ : PySem.W.findIn K (.ref CS) "__init__" = some (some (.ref g_CS___init__)))
    (l_CS___init__ : K.lookup g_CS___init__ = some ⟨oc_CS___init__, od_CS___init__, .func (PySem.W.fnOf "__init__" "Setting.__init__" (defArgs s_Setting___init__) (defBody s_Setting___init__) (defScope s_Setting___init__) (.ref T_CS___init__) kV_CS___init__ dc_CS___init__ pm_CS___init__ an_CS___init__ cd_CS___init__ ct_CS___init__), sl_CS___init__⟩)
    (c_CS___init__ : PySem.W.codeIn K cd_CS___init__ "Setting.__init__" = true)
    (k_CS___init__ : PySem.W.keepIn K (.ref g_CS___init__) = true)
    (i_CS___init__ : PySem.W.isFn K (.ref g_CS___init__) = true)
    (lT_CS___init__ : K.lookup T_CS___init__ = some ⟨ocT_CS___init__, odT_CS___init__, .seq #[.int 1 t_CS___init__0, .int 1 t_CS___init__1, .int 0 t_CS___init__2] nT_CS___init__, slT_CS___init__⟩)
    (a_CQ___init__ : PySem.W.findIn K (.ref CQ) "__init__" = some (some (.ref g_CQ___init__)))
    (l_CQ___init__ : K.lookup g_CQ___init__ = some ⟨oc_CQ___init__, od_CQ___init__, .func (PySem.W.fnOf "__init__" "Ratio.__init__" (defArgs s_Ratio___init__) (defBody s_Ratio___init__) (defScope s_Ratio___init__) (.ref T_CQ___init__) kV_CQ___init__ dc_CQ___init__ pm_CQ___init__ an_CQ___init__ cd_CQ___init__ ct_CQ___init__), sl_CQ___init__⟩)
    (c_CQ___init__ : PySem.W.codeIn K cd_CQ___init__ "Ratio.__init__" = true)
    (k_CQ___init__ : PySem.W.keepIn K (.ref g_CQ___init__) = true)
    (i_CQ___init__ : PySem.W.isFn K (.ref g_CQ___init__) = true)
    (lT_CQ___init__ : K.lookup T_CQ___init__ = some ⟨ocT_CQ___init__, odT_CQ___init__, .seq #[.int 1 t_CQ___init__0] nT_CQ___init__, slT_CQ___init__⟩)
    (a_CL : PySem.W.nsIn K mainGlobals "LateError" = some (some (.ref CL)))
    (aZB : PySem.W.nsIn K mainGlobals "BadSize" = some (some (.ref CB)))
    (iZB : PySem.W.findIn K (.ref CB) "__init__" = some (some (.ref fZB)))
    (tZB : PySem.W.typeIn K (.ref fZB) = some (.type "function"))
    (lZB : K.lookup fZB = some ⟨ocZB, odZB, .func (PySem.W.fnX "__init__" "BadSize.__init__" (defArgs s_BadSize___init__) (defBody s_BadSize___init__) (defScope s_BadSize___init__) [("__class__", ccZB)] .none kVZB dcZB pmZB anZB (.ref cdZB) ctZB), slZB⟩)
    (cZB : PySem.W.codeIn K (.ref cdZB) "BadSize.__init__" = true)
    (eZB : ∃ nm q N bs bm sn sub ab col dd k0 k1 k2 k3 k5, K.lookup CB = some (excClassObj nm q CB N bs bm true sn sub ab col dd k0 k1 k2 k3 k5 "ValueError.__new__") ∧ PySem.HandSPX.refsVE bm = true)
    (sZB : PySem.W.findIn K (.ref CB) "__setattr__" = some (some (.builtin "object.__setattr__")))
    (xZB : PySem.W.subIn K (.ref CB) (.type "BaseException") = some true)
    (yZB : PySem.W.typeIn K (.ref CB) = some (.type "type"))
    (kZB : PySem.W.keepIn K (.ref CB) = true)
    (qZB : K.lookup ccZB = some ⟨clZB, cldZB, .cell (some (.ref CB)), cslZB⟩)
    (uZB : K.lookup cdZB = some ⟨cclZB, cddZB, .fields vsZB, ccsZB⟩)
    (vZB : vsZB[2]? = some (.str fileZB tfZB))
    (wZB : ((l.prog.main.file : Str) == fileZB) = true)
    (mZB : PySem.W.mroIn K CB (.ref CB) = some true)
    (pZB : PySem.W.ks_superIn K CB CB "__init__" = some (some (.builtin "ValueError.__init__")))
    (bZB : PySem.W.subIn K (.ref CB) (.type "ValueError") = some true)
    (zS : PySem.W.nsIn K mainGlobals "super" = some none)
    (tS : (l.prog.main.scope.names.lookup ("super" : Str)).isSome = false)
    (oB : PySem.W.nsIn K cStatics "thirdparty.any" = some none)
    (nZB_value : PySem.W.findIn K (.ref CB) "value" = some none)
    (gZB : PySem.W.findIn K (.ref CB) "__getattribute__" = some (some (.builtin "BaseException.__getattribute__")))
    (hZB : PySem.W.findIn K (.ref CB) "__getattr__" = some none)
    (dZB : PySem.W.hasDictIn K CB = true)
    (jZB : PySem.W.findIn K (.ref CB) "__class__" = some (some (.builtin "object.__class__")))
    (rZB : PySem.W.mroIn K CB (.type "object") = some true)
    (k1ZB : PySem.W.kitOne K (.ref CB) (.ref CB) = some true)
    (emZB : PySem.W.exmOne K (.ref CB) (.ref CL) = some true)
    (kVZB : PySem.W.kitOne K (.ref CB) (.type "ValueError") = some true)
    (aZC : PySem.W.nsIn K mainGlobals "BadChunks" = some (some (.ref CC)))
    (iZC : PySem.W.findIn K (.ref CC) "__init__" = some (some (.ref fZC)))
    (tZC : PySem.W.typeIn K (.ref fZC) = some (.type "function"))
    (lZC : K.lookup fZC = some ⟨ocZC, odZC, .func (PySem.W.fnX "__init__" "BadChunks.__init__" (defArgs s_BadChunks___init__) (defBody s_BadChunks___init__) (defScope s_BadChunks___init__) [("__class__", ccZC)] .none kVZC dcZC pmZC anZC (.ref cdZC) ctZC), slZC⟩)
    (cZC : PySem.W.codeIn K (.ref cdZC) "BadChunks.__init__" = true)
    (eZC : ∃ nm q N bs bm sn sub ab col dd k0 k1 k2 k3 k5, K.lookup CC = some (excClassObj nm q CC N bs bm true sn sub ab col dd k0 k1 k2 k3 k5 "ValueError.__new__") ∧ PySem.HandSPX.refsVE bm = true)
    (sZC : PySem.W.findIn K (.ref CC) "__setattr__" = some (some (.builtin "object.__setattr__")))
    (xZC : PySem.W.subIn K (.ref CC) (.type "BaseException") = some true)
    (yZC : PySem.W.typeIn K (.ref CC) = some (.type "type"))
    (kZC : PySem.W.keepIn K (.ref CC) = true)
    (qZC : K.lookup ccZC = some ⟨clZC, cldZC, .cell (some (.ref CC)), cslZC⟩)
    (uZC : K.lookup cdZC = some ⟨cclZC, cddZC, .fields vsZC, ccsZC⟩)
    (vZC : vsZC[2]? = some (.str fileZC tfZC))
    (wZC : ((l.prog.main.file : Str) == fileZC) = true)
    (mZC : PySem.W.mroIn K CC (.ref CC) = some true)
    (pZC : PySem.W.ks_superIn K CC CC "__init__" = some (some (.builtin "ValueError.__init__")))
    (bZC : PySem.W.subIn K (.ref CC) (.type "ValueError") = some true)
    (nZC_part : PySem.W.findIn K (.ref CC) "part" = some none)
    (gZC : PySem.W.findIn K (.ref CC) "__getattribute__" = some (some (.builtin "BaseException.__getattribute__")))
    (hZC : PySem.W.findIn K (.ref CC) "__getattr__" = some none)
    (dZC : PySem.W.hasDictIn K CC = true)
    (jZC : PySem.W.findIn K (.ref CC) "__class__" = some (some (.builtin "object.__class__")))
    (rZC : PySem.W.mroIn K CC (.type "object") = some true)
    (k1ZC : PySem.W.kitOne K (.ref CC) (.ref CC) = some true)
    (emZC : PySem.W.exmOne K (.ref CC) (.ref CL) = some true)
    (kVZC : PySem.W.kitOne K (.ref CC) (.type "ValueError") = some true)
    (aZM : PySem.W.nsIn K mainGlobals "TooMany" = some (some (.ref CM)))
    (iZM : PySem.W.findIn K (.ref CM) "__init__" = some (some (.ref fZM)))
    (tZM : PySem.W.typeIn K (.ref fZM) = some (.type "function"))
    (lZM : K.lookup fZM = some ⟨ocZM, odZM, .func (PySem.W.fnX "__init__" "TooMany.__init__" (defArgs s_TooMany___init__) (defBody s_TooMany___init__) (defScope s_TooMany___init__) [("__class__", ccZM)] .none kVZM dcZM pmZM anZM (.ref cdZM) ctZM), slZM⟩)
    (cZM : PySem.W.codeIn K (.ref cdZM) "TooMany.__init__" = true)
    (eZM : ∃ nm q N bs bm sn sub ab col dd k0 k1 k2 k3 k5, K.lookup CM = some (excClassObj nm q CM N bs bm true sn sub ab col dd k0 k1 k2 k3 k5 "ValueError.__new__") ∧ PySem.HandSPX.refsVE bm = true)
    (sZM : PySem.W.findIn K (.ref CM) "__setattr__" = some (some (.builtin "object.__setattr__")))
    (xZM : PySem.W.subIn K (.ref CM) (.type "BaseException") = some true)
    (yZM : PySem.W.typeIn K (.ref CM) = some (.type "type"))
    (kZM : PySem.W.keepIn K (.ref CM) = true)
    (qZM : K.lookup ccZM = some ⟨clZM, cldZM, .cell (some (.ref CM)), cslZM⟩)
    (uZM : K.lookup cdZM = some ⟨cclZM, cddZM, .fields vsZM, ccsZM⟩)
    (vZM : vsZM[2]? = some (.str fileZM tfZM))
    (wZM : ((l.prog.main.file : Str) == fileZM) = true)
    (mZM : PySem.W.mroIn K CM (.ref CM) = some true)
    (pZM : PySem.W.ks_superIn K CM CM "__init__" = some (some (.builtin "ValueError.__init__")))
    (bZM : PySem.W.subIn K (.ref CM) (.type "ValueError") = some true)
    (nZM_what : PySem.W.findIn K (.ref CM) "what" = some none)
    (nZM_most : PySem.W.findIn K (.ref CM) "most" = some none)
    (gZM : PySem.W.findIn K (.ref CM) "__getattribute__" = some (some (.builtin "BaseException.__getattribute__")))
    (hZM : PySem.W.findIn K (.ref CM) "__getattr__" = some none)
    (dZM : PySem.W.hasDictIn K CM = true)
    (jZM : PySem.W.findIn K (.ref CM) "__class__" = some (some (.builtin "object.__class__")))
    (rZM : PySem.W.mroIn K CM (.type "object") = some true)
    (k1ZM : PySem.W.kitOne K (.ref CM) (.ref CM) = some true)
    (emZM : PySem.W.exmOne K (.ref CM) (.ref CL) = some true)
    (kVZM : PySem.W.kitOne K (.ref CM) (.type "ValueError") = some true)
    (aZN : PySem.W.nsIn K mainGlobals "NoChunk" = some (some (.ref CN)))
    (iZN : PySem.W.findIn K (.ref CN) "__init__" = some (some (.ref fZN)))
    (tZN : PySem.W.typeIn K (.ref fZN) = some (.type "function"))
    (lZN : K.lookup fZN = some ⟨ocZN, odZN, .func (PySem.W.fnX "__init__" "NoChunk.__init__" (defArgs s_NoChunk___init__) (defBody s_NoChunk___init__) (defScope s_NoChunk___init__) [("__class__", ccZN)] .none kVZN dcZN pmZN anZN (.ref cdZN) ctZN), slZN⟩)
    (cZN : PySem.W.codeIn K (.ref cdZN) "NoChunk.__init__" = true)
    (eZN : ∃ nm q N bs bm sn sub ab col dd k0 k1 k2 k3 k5, K.lookup CN = some (excClassObj nm q CN N bs bm true sn sub ab col dd k0 k1 k2 k3 k5 "ValueError.__new__") ∧ PySem.HandSPX.refsVE bm = true)
    (sZN : PySem.W.findIn K (.ref CN) "__setattr__" = some (some (.builtin "object.__setattr__")))
    (xZN : PySem.W.subIn K (.ref CN) (.type "BaseException") = some true)
    (yZN : PySem.W.typeIn K (.ref CN) = some (.type "type"))
    (kZN : PySem.W.keepIn K (.ref CN) = true)
    (qZN : K.lookup ccZN = some ⟨clZN, cldZN, .cell (some (.ref CN)), cslZN⟩)
    (uZN : K.lookup cdZN = some ⟨cclZN, cddZN, .fields vsZN, ccsZN⟩)
    (vZN : vsZN[2]? = some (.str fileZN tfZN))
    (wZN : ((l.prog.main.file : Str) == fileZN) = true)
    (mZN : PySem.W.mroIn K CN (.ref CN) = some true)
    (pZN : PySem.W.ks_superIn K CN CN "__init__" = some (some (.builtin "ValueError.__init__")))
    (bZN : PySem.W.subIn K (.ref CN) (.type "ValueError") = some true)
    (nZN_at : PySem.W.findIn K (.ref CN) "at" = some none)
    (gZN : PySem.W.findIn K (.ref CN) "__getattribute__" = some (some (.builtin "BaseException.__getattribute__")))
    (hZN : PySem.W.findIn K (.ref CN) "__getattr__" = some none)
    (dZN : PySem.W.hasDictIn K CN = true)
    (jZN : PySem.W.findIn K (.ref CN) "__class__" = some (some (.builtin "object.__class__")))
    (rZN : PySem.W.mroIn K CN (.type "object") = some true)
    (k1ZN : PySem.W.kitOne K (.ref CN) (.ref CN) = some true)
    (emZN : PySem.W.exmOne K (.ref CN) (.ref CL) = some true)
    (kVZN : PySem.W.kitOne K (.ref CN) (.type "ValueError") = some true)
    (aZNa : PySem.W.nsIn K mainGlobals "BadName" = some (some (.ref BN)))
    (iZNa : PySem.W.findIn K (.ref BN) "__init__" = some (some (.ref fZNa)))
    (tZNa : PySem.W.typeIn K (.ref fZNa) = some (.type "function"))
    (lZNa : K.lookup fZNa = some ⟨ocZNa, odZNa, .func (PySem.W.fnX "__init__" "BadName.__init__" (defArgs s_BadName___init__) (defBody s_BadName___init__) (defScope s_BadName___init__) [("__class__", ccZNa)] .none kVZNa dcZNa pmZNa anZNa (.ref cdZNa) ctZNa), slZNa⟩)
    (cZNa : PySem.W.codeIn K (.ref cdZNa) "BadName.__init__" = true)
    (eZNa : ∃ nm q N bs bm sn sub ab col dd k0 k1 k2 k3 k5, K.lookup BN = some (excClassObj nm q BN N bs bm true sn sub ab col dd k0 k1 k2 k3 k5 "ValueError.__new__") ∧ PySem.HandSPX.refsVE bm = true)
    (sZNa : PySem.W.findIn K (.ref BN) "__setattr__" = some (some (.builtin "object.__setattr__")))
    (xZNa : PySem.W.subIn K (.ref BN) (.type "BaseException") = some true)
    (yZNa : PySem.W.typeIn K (.ref BN) = some (.type "type"))
    (kZNa : PySem.W.keepIn K (.ref BN) = true)
    (qZNa : K.lookup ccZNa = some ⟨clZNa, cldZNa, .cell (some (.ref BN)), cslZNa⟩)
    (uZNa : K.lookup cdZNa = some ⟨cclZNa, cddZNa, .fields vsZNa, ccsZNa⟩)
    (vZNa : vsZNa[2]? = some (.str fileZNa tfZNa))
    (wZNa : ((l.prog.main.file : Str) == fileZNa) = true)
    (mZNa : PySem.W.mroIn K BN (.ref BN) = some true)
    (pZNa : PySem.W.ks_superIn K BN BN "__init__" = some (some (.builtin "ValueError.__init__")))
    (bZNa : PySem.W.subIn K (.ref BN) (.type "ValueError") = some true)
    (nZNa_value : PySem.W.findIn K (.ref BN) "value" = some none)
    (gZNa : PySem.W.findIn K (.ref BN) "__getattribute__" = some (some (.builtin "BaseException.__getattribute__")))
    (hZNa : PySem.W.findIn K (.ref BN) "__getattr__" = some none)
    (dZNa : PySem.W.hasDictIn K BN = true)
    (jZNa : PySem.W.findIn K (.ref BN) "__class__" = some (some (.builtin "object.__class__")))
    (rZNa : PySem.W.mroIn K BN (.type "object") = some true)
    (k1ZNa : PySem.W.kitOne K (.ref BN) (.ref BN) = some true)
    (emZNa : PySem.W.exmOne K (.ref BN) (.ref CL) = some true)
    (kVZNa : PySem.W.kitOne K (.ref BN) (.type "ValueError") = some true)
    (aZSp : PySem.W.nsIn K mainGlobals "BadSpeed" = some (some (.ref BS)))
    (iZSp : PySem.W.findIn K (.ref BS) "__init__" = some (some (.ref fZSp)))
    (tZSp : PySem.W.typeIn K (.ref fZSp) = some (.type "function"))
    (lZSp : K.lookup fZSp = some ⟨ocZSp, odZSp, .func (PySem.W.fnX "__init__" "BadSpeed.__init__" (defArgs s_BadSpeed___init__) (defBody s_BadSpeed___init__) (defScope s_BadSpeed___init__) [("__class__", ccZSp)] .none kVZSp dcZSp pmZSp anZSp (.ref cdZSp) ctZSp), slZSp⟩)
    (cZSp : PySem.W.codeIn K (.ref cdZSp) "BadSpeed.__init__" = true)
    (eZSp : ∃ nm q N bs bm sn sub ab col dd k0 k1 k2 k3 k5, K.lookup BS = some (excClassObj nm q BS N bs bm true sn sub ab col dd k0 k1 k2 k3 k5 "ValueError.__new__") ∧ PySem.HandSPX.refsVE bm = true)
    (sZSp : PySem.W.findIn K (.ref BS) "__setattr__" = some (some (.builtin "object.__setattr__")))
    (xZSp : PySem.W.subIn K (.ref BS) (.type "BaseException") = some true)
    (yZSp : PySem.W.typeIn K (.ref BS) = some (.type "type"))
    (kZSp : PySem.W.keepIn K (.ref BS) = true)
    (qZSp : K.lookup ccZSp = some ⟨clZSp, cldZSp, .cell (some (.ref BS)), cslZSp⟩)
    (uZSp : K.lookup cdZSp = some ⟨cclZSp, cddZSp, .fields vsZSp, ccsZSp⟩)
    (vZSp : vsZSp[2]? = some (.str fileZSp tfZSp))
    (wZSp : ((l.prog.main.file : Str) == fileZSp) = true)
    (mZSp : PySem.W.mroIn K BS (.ref BS) = some true)
    (pZSp : PySem.W.ks_superIn K BS BS "__init__" = some (some (.builtin "ValueError.__init__")))
    (bZSp : PySem.W.subIn K (.ref BS) (.type "ValueError") = some true)
    (nZSp_value : PySem.W.findIn K (.ref BS) "value" = some none)
    (gZSp : PySem.W.findIn K (.ref BS) "__getattribute__" = some (some (.builtin "BaseException.__getattribute__")))
    (hZSp : PySem.W.findIn K (.ref BS) "__getattr__" = some none)
    (dZSp : PySem.W.hasDictIn K BS = true)
    (jZSp : PySem.W.findIn K (.ref BS) "__class__" = some (some (.builtin "object.__class__")))
    (rZSp : PySem.W.mroIn K BS (.type "object") = some true)
    (k1ZSp : PySem.W.kitOne K (.ref BS) (.ref BS) = some true)
    (emZSp : PySem.W.exmOne K (.ref BS) (.ref CL) = some true)
    (kVZSp : PySem.W.kitOne K (.ref BS) (.type "ValueError") = some true)
    (aZCr : PySem.W.nsIn K mainGlobals "BadCrew" = some (some (.ref BW)))
    (iZCr : PySem.W.findIn K (.ref BW) "__init__" = some (some (.ref fZCr)))
    (tZCr : PySem.W.typeIn K (.ref fZCr) = some (.type "function"))
    (lZCr : K.lookup fZCr = some ⟨ocZCr, odZCr, .func (PySem.W.fnX "__init__" "BadCrew.__init__" (defArgs s_BadCrew___init__) (defBody s_BadCrew___init__) (defScope s_BadCrew___init__) [("__class__", ccZCr)] .none kVZCr dcZCr pmZCr anZCr (.ref cdZCr) ctZCr), slZCr⟩)
    (cZCr : PySem.W.codeIn K (.ref cdZCr) "BadCrew.__init__" = true)
    (eZCr : ∃ nm q N bs bm sn sub ab col dd k0 k1 k2 k3 k5, K.lookup BW = some (excClassObj nm q BW N bs bm true sn sub ab col dd k0 k1 k2 k3 k5 "ValueError.__new__") ∧ PySem.HandSPX.refsVE bm = true)
    (sZCr : PySem.W.findIn K (.ref BW) "__setattr__" = some (some (.builtin "object.__setattr__")))
    (xZCr : PySem.W.subIn K (.ref BW) (.type "BaseException") = some true)
    (yZCr : PySem.W.typeIn K (.ref BW) = some (.type "type"))
    (kZCr : PySem.W.keepIn K (.ref BW) = true)
    (qZCr : K.lookup ccZCr = some ⟨clZCr, cldZCr, .cell (some (.ref BW)), cslZCr⟩)
    (uZCr : K.lookup cdZCr = some ⟨cclZCr, cddZCr, .fields vsZCr, ccsZCr⟩)
    (vZCr : vsZCr[2]? = some (.str fileZCr tfZCr))
    (wZCr : ((l.prog.main.file : Str) == fileZCr) = true)
    (mZCr : PySem.W.mroIn K BW (.ref BW) = some true)
    (pZCr : PySem.W.ks_superIn K BW BW "__init__" = some (some (.builtin "ValueError.__init__")))
    (bZCr : PySem.W.subIn K (.ref BW) (.type "ValueError") = some true)
    (nZCr_part : PySem.W.findIn K (.ref BW) "part" = some none)
    (gZCr : PySem.W.findIn K (.ref BW) "__getattribute__" = some (some (.builtin "BaseException.__getattribute__")))
    (hZCr : PySem.W.findIn K (.ref BW) "__getattr__" = some none)
    (dZCr : PySem.W.hasDictIn K BW = true)
    (jZCr : PySem.W.findIn K (.ref BW) "__class__" = some (some (.builtin "object.__class__")))
    (rZCr : PySem.W.mroIn K BW (.type "object") = some true)
    (k1ZCr : PySem.W.kitOne K (.ref BW) (.ref BW) = some true)
    (emZCr : PySem.W.exmOne K (.ref BW) (.ref CL) = some true)
    (kVZCr : PySem.W.kitOne K (.ref BW) (.type "ValueError") = some true)
    (aZNw : PySem.W.nsIn K mainGlobals "NoWorker" = some (some (.ref NW)))
    (iZNw : PySem.W.findIn K (.ref NW) "__init__" = some (some (.ref fZNw)))
    (tZNw : PySem.W.typeIn K (.ref fZNw) = some (.type "function"))
    (lZNw : K.lookup fZNw = some ⟨ocZNw, odZNw, .func (PySem.W.fnX "__init__" "NoWorker.__init__" (defArgs s_NoWorker___init__) (defBody s_NoWorker___init__) (defScope s_NoWorker___init__) [("__class__", ccZNw)] .none kVZNw dcZNw pmZNw anZNw (.ref cdZNw) ctZNw), slZNw⟩)
    (cZNw : PySem.W.codeIn K (.ref cdZNw) "NoWorker.__init__" = true)
    (eZNw : ∃ nm q N bs bm sn sub ab col dd k0 k1 k2 k3 k5, K.lookup NW = some (excClassObj nm q NW N bs bm true sn sub ab col dd k0 k1 k2 k3 k5 "ValueError.__new__") ∧ PySem.HandSPX.refsVE bm = true)
    (sZNw : PySem.W.findIn K (.ref NW) "__setattr__" = some (some (.builtin "object.__setattr__")))
    (xZNw : PySem.W.subIn K (.ref NW) (.type "BaseException") = some true)
    (yZNw : PySem.W.typeIn K (.ref NW) = some (.type "type"))
    (kZNw : PySem.W.keepIn K (.ref NW) = true)
    (qZNw : K.lookup ccZNw = some ⟨clZNw, cldZNw, .cell (some (.ref NW)), cslZNw⟩)
    (uZNw : K.lookup cdZNw = some ⟨cclZNw, cddZNw, .fields vsZNw, ccsZNw⟩)
    (vZNw : vsZNw[2]? = some (.str fileZNw tfZNw))
    (wZNw : ((l.prog.main.file : Str) == fileZNw) = true)
    (mZNw : PySem.W.mroIn K NW (.ref NW) = some true)
    (pZNw : PySem.W.ks_superIn K NW NW "__init__" = some (some (.builtin "ValueError.__init__")))
    (bZNw : PySem.W.subIn K (.ref NW) (.type "ValueError") = some true)
    (nZNw_name : PySem.W.findIn K (.ref NW) "name" = some none)
    (gZNw : PySem.W.findIn K (.ref NW) "__getattribute__" = some (some (.builtin "BaseException.__getattribute__")))
    (hZNw : PySem.W.findIn K (.ref NW) "__getattr__" = some none)
    (dZNw : PySem.W.hasDictIn K NW = true)
    (jZNw : PySem.W.findIn K (.ref NW) "__class__" = some (some (.builtin "object.__class__")))
    (rZNw : PySem.W.mroIn K NW (.type "object") = some true)
    (k1ZNw : PySem.W.kitOne K (.ref NW) (.ref NW) = some true)
    (emZNw : PySem.W.exmOne K (.ref NW) (.ref CL) = some true)
    (kVZNw : PySem.W.kitOne K (.ref NW) (.type "ValueError") = some true)
    (aZQ : PySem.W.nsIn K mainGlobals "BadRatio" = some (some (.ref BR)))
    (iZQ : PySem.W.findIn K (.ref BR) "__init__" = some (some (.ref fZQ)))
    (tZQ : PySem.W.typeIn K (.ref fZQ) = some (.type "function"))
    (lZQ : K.lookup fZQ = some ⟨ocZQ, odZQ, .func (PySem.W.fnX "__init__" "BadRatio.__init__" (defArgs s_BadRatio___init__) (defBody s_BadRatio___init__) (defScope s_BadRatio___init__) [("__class__", ccZQ)] .none kVZQ dcZQ pmZQ anZQ (.ref cdZQ) ctZQ), slZQ⟩)
    (cZQ : PySem.W.codeIn K (.ref cdZQ) "BadRatio.__init__" = true)
    (eZQ : ∃ nm q N bs bm sn sub ab col dd k0 k1 k2 k3 k5, K.lookup BR = some (excClassObj nm q BR N bs bm true sn sub ab col dd k0 k1 k2 k3 k5 "ValueError.__new__") ∧ PySem.HandSPX.refsVE bm = true)
    (sZQ : PySem.W.findIn K (.ref BR) "__setattr__" = some (some (.builtin "object.__setattr__")))
    (xZQ : PySem.W.subIn K (.ref BR) (.type "BaseException") = some true)
    (yZQ : PySem.W.typeIn K (.ref BR) = some (.type "type"))
    (kZQ : PySem.W.keepIn K (.ref BR) = true)
    (qZQ : K.lookup ccZQ = some ⟨clZQ, cldZQ, .cell (some (.ref BR)), cslZQ⟩)
    (uZQ : K.lookup cdZQ = some ⟨cclZQ, cddZQ, .fields vsZQ, ccsZQ⟩)
    (vZQ : vsZQ[2]? = some (.str fileZQ tfZQ))
    (wZQ : ((l.prog.main.file : Str) == fileZQ) = true)
    (mZQ : PySem.W.mroIn K BR (.ref BR) = some true)
    (pZQ : PySem.W.ks_superIn K BR BR "__init__" = some (some (.builtin "ValueError.__init__")))
    (bZQ : PySem.W.subIn K (.ref BR) (.type "ValueError") = some true)
    (nZQ_value : PySem.W.findIn K (.ref BR) "value" = some none)
    (gZQ : PySem.W.findIn K (.ref BR) "__getattribute__" = some (some (.builtin "BaseException.__getattribute__")))
    (hZQ : PySem.W.findIn K (.ref BR) "__getattr__" = some none)
    (dZQ : PySem.W.hasDictIn K BR = true)
    (jZQ : PySem.W.findIn K (.ref BR) "__class__" = some (some (.builtin "object.__class__")))
    (rZQ : PySem.W.mroIn K BR (.type "object") = some true)
    (k1ZQ : PySem.W.kitOne K (.ref BR) (.ref BR) = some true)
    (emZQ : PySem.W.exmOne K (.ref BR) (.ref CL) = some true)
    (kVZQ : PySem.W.kitOne K (.ref BR) (.type "ValueError") = some true)
    (aZRe : PySem.W.nsIn K mainGlobals "BadRest" = some (some (.ref BE)))
    (iZRe : PySem.W.findIn K (.ref BE) "__init__" = some (some (.ref fZRe)))
    (tZRe : PySem.W.typeIn K (.ref fZRe) = some (.type "function"))
    (lZRe : K.lookup fZRe = some ⟨ocZRe, odZRe, .func (PySem.W.fnX "__init__" "BadRest.__init__" (defArgs s_BadRest___init__) (defBody s_BadRest___init__) (defScope s_BadRest___init__) [("__class__", ccZRe)] .none kVZRe dcZRe pmZRe anZRe (.ref cdZRe) ctZRe), slZRe⟩)
    (cZRe : PySem.W.codeIn K (.ref cdZRe) "BadRest.__init__" = true)
    (eZRe : ∃ nm q N bs bm sn sub ab col dd k0 k1 k2 k3 k5, K.lookup BE = some (excClassObj nm q BE N bs bm true sn sub ab col dd k0 k1 k2 k3 k5 "ValueError.__new__") ∧ PySem.HandSPX.refsVE bm = true)
    (sZRe : PySem.W.findIn K (.ref BE) "__setattr__" = some (some (.builtin "object.__setattr__")))
    (xZRe : PySem.W.subIn K (.ref BE) (.type "BaseException") = some true)
    (yZRe : PySem.W.typeIn K (.ref BE) = some (.type "type"))
    (kZRe : PySem.W.keepIn K (.ref BE) = true)
    (qZRe : K.lookup ccZRe = some ⟨clZRe, cldZRe, .cell (some (.ref BE)), cslZRe⟩)
    (uZRe : K.lookup cdZRe = some ⟨cclZRe, cddZRe, .fields vsZRe, ccsZRe⟩)
    (vZRe : vsZRe[2]? = some (.str fileZRe tfZRe))
    (wZRe : ((l.prog.main.file : Str) == fileZRe) = true)
    (mZRe : PySem.W.mroIn K BE (.ref BE) = some true)
    (pZRe : PySem.W.ks_superIn K BE BE "__init__" = some (some (.builtin "ValueError.__init__")))
    (bZRe : PySem.W.subIn K (.ref BE) (.type "ValueError") = some true)
    (nZRe_value : PySem.W.findIn K (.ref BE) "value" = some none)
    (gZRe : PySem.W.findIn K (.ref BE) "__getattribute__" = some (some (.builtin "BaseException.__getattribute__")))
    (hZRe : PySem.W.findIn K (.ref BE) "__getattr__" = some none)
    (dZRe : PySem.W.hasDictIn K BE = true)
    (jZRe : PySem.W.findIn K (.ref BE) "__class__" = some (some (.builtin "object.__class__")))
    (rZRe : PySem.W.mroIn K BE (.type "object") = some true)
    (k1ZRe : PySem.W.kitOne K (.ref BE) (.ref BE) = some true)
    (emZRe : PySem.W.exmOne K (.ref BE) (.ref CL) = some true)
    (kVZRe : PySem.W.kitOne K (.ref BE) (.type "ValueError") = some true)
    (aZSe : PySem.W.nsIn K mainGlobals "BadSetting" = some (some (.ref SE)))
    (iZSe : PySem.W.findIn K (.ref SE) "__init__" = some (some (.ref fZSe)))
    (tZSe : PySem.W.typeIn K (.ref fZSe) = some (.type "function"))
    (lZSe : K.lookup fZSe = some ⟨ocZSe, odZSe, .func (PySem.W.fnX "__init__" "BadSetting.__init__" (defArgs s_BadSetting___init__) (defBody s_BadSetting___init__) (defScope s_BadSetting___init__) [("__class__", ccZSe)] .none kVZSe dcZSe pmZSe anZSe (.ref cdZSe) ctZSe), slZSe⟩)
    (cZSe : PySem.W.codeIn K (.ref cdZSe) "BadSetting.__init__" = true)
    (eZSe : ∃ nm q N bs bm sn sub ab col dd k0 k1 k2 k3 k5, K.lookup SE = some (excClassObj nm q SE N bs bm true sn sub ab col dd k0 k1 k2 k3 k5 "ValueError.__new__") ∧ PySem.HandSPX.refsVE bm = true)
    (sZSe : PySem.W.findIn K (.ref SE) "__setattr__" = some (some (.builtin "object.__setattr__")))
    (xZSe : PySem.W.subIn K (.ref SE) (.type "BaseException") = some true)
    (yZSe : PySem.W.typeIn K (.ref SE) = some (.type "type"))
    (kZSe : PySem.W.keepIn K (.ref SE) = true)
    (qZSe : K.lookup ccZSe = some ⟨clZSe, cldZSe, .cell (some (.ref SE)), cslZSe⟩)
    (uZSe : K.lookup cdZSe = some ⟨cclZSe, cddZSe, .fields vsZSe, ccsZSe⟩)
    (vZSe : vsZSe[2]? = some (.str fileZSe tfZSe))
    (wZSe : ((l.prog.main.file : Str) == fileZSe) = true)
    (mZSe : PySem.W.mroIn K SE (.ref SE) = some true)
    (pZSe : PySem.W.ks_superIn K SE SE "__init__" = some (some (.builtin "ValueError.__init__")))
    (bZSe : PySem.W.subIn K (.ref SE) (.type "ValueError") = some true)
    (nZSe_part : PySem.W.findIn K (.ref SE) "part" = some none)
    (gZSe : PySem.W.findIn K (.ref SE) "__getattribute__" = some (some (.builtin "BaseException.__getattribute__")))
    (hZSe : PySem.W.findIn K (.ref SE) "__getattr__" = some none)
    (dZSe : PySem.W.hasDictIn K SE = true)
    (jZSe : PySem.W.findIn K (.ref SE) "__class__" = some (some (.builtin "object.__class__")))
    (rZSe : PySem.W.mroIn K SE (.type "object") = some true)
    (k1ZSe : PySem.W.kitOne K (.ref SE) (.ref SE) = some true)
    (emZSe : PySem.W.exmOne K (.ref SE) (.ref CL) = some true)
    (kVZSe : PySem.W.kitOne K (.ref SE) (.type "ValueError") = some true)
    (aZCo : PySem.W.nsIn K mainGlobals "BadCost" = some (some (.ref BA)))
    (iZCo : PySem.W.findIn K (.ref BA) "__init__" = some (some (.ref fZCo)))
    (tZCo : PySem.W.typeIn K (.ref fZCo) = some (.type "function"))
    (lZCo : K.lookup fZCo = some ⟨ocZCo, odZCo, .func (PySem.W.fnX "__init__" "BadCost.__init__" (defArgs s_BadCost___init__) (defBody s_BadCost___init__) (defScope s_BadCost___init__) [("__class__", ccZCo)] .none kVZCo dcZCo pmZCo anZCo (.ref cdZCo) ctZCo), slZCo⟩)
    (cZCo : PySem.W.codeIn K (.ref cdZCo) "BadCost.__init__" = true)
    (eZCo : ∃ nm q N bs bm sn sub ab col dd k0 k1 k2 k3 k5, K.lookup BA = some (excClassObj nm q BA N bs bm true sn sub ab col dd k0 k1 k2 k3 k5 "ValueError.__new__") ∧ PySem.HandSPX.refsVE bm = true)
    (sZCo : PySem.W.findIn K (.ref BA) "__setattr__" = some (some (.builtin "object.__setattr__")))
    (xZCo : PySem.W.subIn K (.ref BA) (.type "BaseException") = some true)
    (yZCo : PySem.W.typeIn K (.ref BA) = some (.type "type"))
    (kZCo : PySem.W.keepIn K (.ref BA) = true)
    (qZCo : K.lookup ccZCo = some ⟨clZCo, cldZCo, .cell (some (.ref BA)), cslZCo⟩)
    (uZCo : K.lookup cdZCo = some ⟨cclZCo, cddZCo, .fields vsZCo, ccsZCo⟩)
    (vZCo : vsZCo[2]? = some (.str fileZCo tfZCo))
    (wZCo : ((l.prog.main.file : Str) == fileZCo) = true)
    (mZCo : PySem.W.mroIn K BA (.ref BA) = some true)
    (pZCo : PySem.W.ks_superIn K BA BA "__init__" = some (some (.builtin "ValueError.__init__")))
    (bZCo : PySem.W.subIn K (.ref BA) (.type "ValueError") = some true)
    (nZCo_value : PySem.W.findIn K (.ref BA) "value" = some none)
    (gZCo : PySem.W.findIn K (.ref BA) "__getattribute__" = some (some (.builtin "BaseException.__getattribute__")))
    (hZCo : PySem.W.findIn K (.ref BA) "__getattr__" = some none)
    (dZCo : PySem.W.hasDictIn K BA = true)
    (jZCo : PySem.W.findIn K (.ref BA) "__class__" = some (some (.builtin "object.__class__")))
    (rZCo : PySem.W.mroIn K BA (.type "object") = some true)
    (k1ZCo : PySem.W.kitOne K (.ref BA) (.ref BA) = some true)
    (emZCo : PySem.W.exmOne K (.ref BA) (.ref CL) = some true)
    (kVZCo : PySem.W.kitOne K (.ref BA) (.type "ValueError") = some true)
    (aZFe : PySem.W.nsIn K mainGlobals "BadFee" = some (some (.ref BF)))
    (iZFe : PySem.W.findIn K (.ref BF) "__init__" = some (some (.ref fZFe)))
    (tZFe : PySem.W.typeIn K (.ref fZFe) = some (.type "function"))
    (lZFe : K.lookup fZFe = some ⟨ocZFe, odZFe, .func (PySem.W.fnX "__init__" "BadFee.__init__" (defArgs s_BadFee___init__) (defBody s_BadFee___init__) (defScope s_BadFee___init__) [("__class__", ccZFe)] .none kVZFe dcZFe pmZFe anZFe (.ref cdZFe) ctZFe), slZFe⟩)
    (cZFe : PySem.W.codeIn K (.ref cdZFe) "BadFee.__init__" = true)
    (eZFe : ∃ nm q N bs bm sn sub ab col dd k0 k1 k2 k3 k5, K.lookup BF = some (excClassObj nm q BF N bs bm true sn sub ab col dd k0 k1 k2 k3 k5 "ValueError.__new__") ∧ PySem.HandSPX.refsVE bm = true)
    (sZFe : PySem.W.findIn K (.ref BF) "__setattr__" = some (some (.builtin "object.__setattr__")))
    (xZFe : PySem.W.subIn K (.ref BF) (.type "BaseException") = some true)
    (yZFe : PySem.W.typeIn K (.ref BF) = some (.type "type"))
    (kZFe : PySem.W.keepIn K (.ref BF) = true)
    (qZFe : K.lookup ccZFe = some ⟨clZFe, cldZFe, .cell (some (.ref BF)), cslZFe⟩)
    (uZFe : K.lookup cdZFe = some ⟨cclZFe, cddZFe, .fields vsZFe, ccsZFe⟩)
    (vZFe : vsZFe[2]? = some (.str fileZFe tfZFe))
    (wZFe : ((l.prog.main.file : Str) == fileZFe) = true)
    (mZFe : PySem.W.mroIn K BF (.ref BF) = some true)
    (pZFe : PySem.W.ks_superIn K BF BF "__init__" = some (some (.builtin "ValueError.__init__")))
    (bZFe : PySem.W.subIn K (.ref BF) (.type "ValueError") = some true)
    (nZFe_value : PySem.W.findIn K (.ref BF) "value" = some none)
    (gZFe : PySem.W.findIn K (.ref BF) "__getattribute__" = some (some (.builtin "BaseException.__getattribute__")))
    (hZFe : PySem.W.findIn K (.ref BF) "__getattr__" = some none)
    (dZFe : PySem.W.hasDictIn K BF = true)
    (jZFe : PySem.W.findIn K (.ref BF) "__class__" = some (some (.builtin "object.__class__")))
    (rZFe : PySem.W.mroIn K BF (.type "object") = some true)
    (k1ZFe : PySem.W.kitOne K (.ref BF) (.ref BF) = some true)
    (emZFe : PySem.W.exmOne K (.ref BF) (.ref CL) = some true)
    (kVZFe : PySem.W.kitOne K (.ref BF) (.type "ValueError") = some true)
    (aZT : PySem.W.nsIn K mainGlobals "BadText" = some (some (.ref BT)))
    (iZT : PySem.W.findIn K (.ref BT) "__init__" = some (some (.ref fZT)))
    (tZT : PySem.W.typeIn K (.ref fZT) = some (.type "function"))
    (lZT : K.lookup fZT = some ⟨ocZT, odZT, .func (PySem.W.fnX "__init__" "BadText.__init__" (defArgs s_BadText___init__) (defBody s_BadText___init__) (defScope s_BadText___init__) [("__class__", ccZT)] .none kVZT dcZT pmZT anZT (.ref cdZT) ctZT), slZT⟩)
    (cZT : PySem.W.codeIn K (.ref cdZT) "BadText.__init__" = true)
    (eZT : ∃ nm q N bs bm sn sub ab col dd k0 k1 k2 k3 k5, K.lookup BT = some (excClassObj nm q BT N bs bm true sn sub ab col dd k0 k1 k2 k3 k5 "ValueError.__new__") ∧ PySem.HandSPX.refsVE bm = true)
    (sZT : PySem.W.findIn K (.ref BT) "__setattr__" = some (some (.builtin "object.__setattr__")))
    (xZT : PySem.W.subIn K (.ref BT) (.type "BaseException") = some true)
    (yZT : PySem.W.typeIn K (.ref BT) = some (.type "type"))
    (kZT : PySem.W.keepIn K (.ref BT) = true)
    (qZT : K.lookup ccZT = some ⟨clZT, cldZT, .cell (some (.ref BT)), cslZT⟩)
    (uZT : K.lookup cdZT = some ⟨cclZT, cddZT, .fields vsZT, ccsZT⟩)
    (vZT : vsZT[2]? = some (.str fileZT tfZT))
    (wZT : ((l.prog.main.file : Str) == fileZT) = true)
    (mZT : PySem.W.mroIn K BT (.ref BT) = some true)
    (pZT : PySem.W.ks_superIn K BT BT "__init__" = some (some (.builtin "ValueError.__init__")))
    (bZT : PySem.W.subIn K (.ref BT) (.type "ValueError") = some true)
    (nZT_line : PySem.W.findIn K (.ref BT) "line" = some none)
    (nZT_word : PySem.W.findIn K (.ref BT) "word" = some none)
    (gZT : PySem.W.findIn K (.ref BT) "__getattribute__" = some (some (.builtin "BaseException.__getattribute__")))
    (hZT : PySem.W.findIn K (.ref BT) "__getattr__" = some none)
    (dZT : PySem.W.hasDictIn K BT = true)
    (jZT : PySem.W.findIn K (.ref BT) "__class__" = some (some (.builtin "object.__class__")))
    (rZT : PySem.W.mroIn K BT (.type "object") = some true)
    (k1ZT : PySem.W.kitOne K (.ref BT) (.ref BT) = some true)
    (emZT : PySem.W.exmOne K (.ref BT) (.ref CL) = some true)
    (kVZT : PySem.W.kitOne K (.ref BT) (.type "ValueError") = some true)
    (kMW : PySem.W.kitOne K (.ref CM) (.ref BT) = some false)
    (kWM : PySem.W.kitOne K (.ref BT) (.ref CM) = some false)
    (kCI : PySem.W.kitOne K (.ref CK) (.type "int") = some false)
    (kCS : PySem.W.kitOne K (.ref CK) (.type "str") = some false)
    (kCLT : PySem.W.kitAny K (.ref CK) [.type "list", .type "tuple"] = some false)
    (kTC : (["int", "NoneType", "bool", "str", "tuple", "list", "dict"].all fun T => decide (PySem.W.kitOne K (.type T) (.ref CK) = some false)) = true)
    (gMS : PySem.W.nsIn K mainGlobals "MOST_SIZE" = some (some (.int 1000000000000000000000000000000 tMS)))
    (gMC : PySem.W.nsIn K mainGlobals "MOST_CHUNKS" = some (some (.int 5000 tMC)))
    (gMI : PySem.W.nsIn K mainGlobals "MOST_ITEMS" = some (some (.int 1000000000000000000000000000000 tMI)))
    (gMF : PySem.W.nsIn K mainGlobals "MOST_FIGURES" = some (some (.int 4000 tMF)))
    (digs : PySem.W.nsIn K cStatics "sys.int_max_str_digits" = some none)
    (gWo : PySem.W.nsIn K mainGlobals "WORDS" = some (some (.ref aW)))
    (lWo : K.lookup aW = some ⟨.type "tuple", odW, .seq #[.str "cost" wt0, .str "fee" wt1, .str "none" wt2, .str "order" wt3, .str "ready" wt4, .str "self" wt5, .str "chunks" wt6, .str "crew" wt7, .str "late" wt8, .str "at" wt9] nW, slW⟩)
    (gSi : PySem.W.nsIn K mainGlobals "SIGNS" = some (some (.str "abcdefghijklmnopqrstuvwxyz" tSG)))
    (gSp : PySem.W.nsIn K mainGlobals "MOST_SPEED" = some (some (.int 60 tSP)))
    (gMW : PySem.W.nsIn K mainGlobals "MOST_WORKERS" = some (some (.int 8 tMW)))
    (gCo : PySem.W.nsIn K mainGlobals "MOST_COST" = some (some (.int 60 tMCo)))
    (gFe : PySem.W.nsIn K mainGlobals "MOST_FEE" = some (some (.int 1000000000000000000000000000000 tMFe)))
    (yoQ : odTys.all (fun T => decide (PySem.W.kitOne K (.type T) (.ref CQ) = some false)) = true)
    (yiQ : PySem.W.kitOne K (.type "int") (.ref CQ) = some false)
    (sfQ : PySem.W.selfFirst K CQ = true)
    (mrQ : (PySem.W.clsIn K CQ).map (·.mro) = some [.ref CQ, .type "object"])
    (sIQ : PySem.W.subIn K (.ref CQ) (.type "int") = some false)
    (sBQ : PySem.W.subIn K (.ref CQ) (.type "bool") = some false)
    (oQ_add : othersB K CQ .Add = true)
    (vQ_add : PySem.W.findIn K (.type "int") (dunderI (.Add : Operator).info.2) = some none)
    (uQ_add : PySem.W.findIn K (.ref CQ) (dunderI (.Add : Operator).info.2) = some none)
    (xQ_add : PySem.W.findIn K (.type "object") (dunderI (.Add : Operator).info.2) = some none)
    (ns_CW : PySem.W.noSeq K CW = true)
    (fi_CW : PySem.W.fnIn K g_CW___getitem__ = true)
    (z_isinstance : PySem.W.nsIn K mainGlobals "isinstance" = some none)
    (z_int : PySem.W.nsIn K mainGlobals "int" = some none)
    (z_bool : PySem.W.nsIn K mainGlobals "bool" = some none)
    (z_len : PySem.W.nsIn K mainGlobals "len" = some none)
    (z_abs : PySem.W.nsIn K mainGlobals "abs" = some none)
    (z_list : PySem.W.nsIn K mainGlobals "list" = some none)
    (z_tuple : PySem.W.nsIn K mainGlobals "tuple" = some none)
    (z_range : PySem.W.nsIn K mainGlobals "range" = some none)
    (z_repr : PySem.W.nsIn K mainGlobals "repr" = some none)
    (z_str : PySem.W.nsIn K mainGlobals "str" = some none)
    (z_zip : PySem.W.nsIn K mainGlobals "zip" = some none)
    (z_min : PySem.W.nsIn K mainGlobals "min" = some none)
    (z_max : PySem.W.nsIn K mainGlobals "max" = some none)
    (z_all : PySem.W.nsIn K mainGlobals "all" = some none)
    (z_any : PySem.W.nsIn K mainGlobals "any" = some none)
    (z_sorted : PySem.W.nsIn K mainGlobals "sorted" = some none)
    (z_enumerate : PySem.W.nsIn K mainGlobals "enumerate" = some none)
    (z_ValueError : PySem.W.nsIn K mainGlobals "ValueError" = some none)
    (z_dict : PySem.W.nsIn K mainGlobals "dict" = some none)
    (z_sum : PySem.W.nsIn K mainGlobals "sum" = some none)
    (z_set : PySem.W.nsIn K mainGlobals "set" = some none)
    (z_iter : PySem.W.nsIn K mainGlobals "iter" = some none)
    (hPd0 : ([] : List Addr).Nodup)
    : LawG l w K CX0 13 63 "_law_script" mg fa h := by
  have e := hfa.symm.trans (PySem.W.mg_of X G a30)
  cases e
  have hPd : (([] : List (Addr × Str)).map (·.1)).Nodup := hPd0
  have F1 := fun_mk (st := s_is_integer) l1 c1 k1
  have F2 := fun_mk (st := s_is_within) l2 c2 k2
  have F3 := fun_mk (st := s_is_size) l3 c3 k3
  have F4 := fun_mk (st := s_need_size) l4 c4 k4
  have F5 := fun_mk (st := s_need_few) l5 c5 k5
  have F6 := fun_mk (st := s_ends_of) l6 c6 k6
  have F7 := fun_mk (st := s_is_name) l7 c7 k7
  have F8 := fun_mk (st := s_is_speed) l8 c8 k8
  have F9 := fun_mk (st := s_need_speed) l9 c9 k9
  have F10 := fun_mk (st := s_need_speeds) l10 c10 k10
  have F11 := fun_mk (st := s_first_with) l11 c11 k11
  have F12 := fun_mk (st := s_common) l12 c12 k12
  have F13 := fun_mk (st := s_told_of) l13 c13 k13
  have F14 := fun_mk (st := s_need_spot) l14 c14 k14
  have F15 := fun_mk (st := s_need_list) l15 c15 k15
  have F16 := fun_mk (st := s_rows_of) l16 c16 k16
  have F17 := fun_mk (st := s_place_of_greatest) l17 c17 k17
  have F18 := fun_mk (st := s_lateness) l18 c18 k18
  have F19 := fun_mk (st := s__law_pen) l19 c19 k19
  have F20 := fun_mk (st := s__law_draw) l20 c20 k20
  have F21 := fun_mk (st := s__law_pick) l21 c21 k21
  have F22 := fun_mk (st := s__law_setting) l22 c22 k22
  have F23 := fun_mk (st := s__law_common) l23 c23 k23
  have F24 := fun_mk (st := s__law_offered) l24 c24 k24
  have F25 := fun_mk (st := s__law_played) l25 c25 k25
  have F26 := fun_mk (st := s__law_is_later) l26 c26 k26
  have F27 := fun_mk (st := s__law_all_costs) l27 c27 k27
  have F28 := fun_mk (st := s__law_worst) l28 c28 k28
  have F29 := fun_mk (st := s__law_right) l29 c29 k29
  have F30 := fun_mk (st := s_law) l30 c30 k30
  have F_CK___init__ := fun_mk l_CK___init__ c_CK___init__ k_CK___init__
  have F_CK_of := fun_mk l_CK_of c_CK_of k_CK_of
  have F_CW___init__ := fun_mk l_CW___init__ c_CW___init__ k_CW___init__
  have F_CW___contains__ := fun_mk l_CW___contains__ c_CW___contains__ k_CW___contains__
  have F_CW___getitem__ := fun_mk l_CW___getitem__ c_CW___getitem__ k_CW___getitem__
  have F_CW_of := fun_mk l_CW_of c_CW_of k_CW_of
  have F_CS_late_of := fun_mk l_CS_late_of c_CS_late_of k_CS_late_of
  have F_CQ___add__ := fun_mk l_CQ___add__ c_CQ___add__ k_CQ___add__
  have F_CQ___radd__ := fun_mk l_CQ___radd__ c_CQ___radd__ k_CQ___radd__
  have F_CQ___lt__ := fun_mk l_CQ___lt__ c_CQ___lt__ k_CQ___lt__
  have F_CQ___gt__ := fun_mk l_CQ___gt__ c_CQ___gt__ k_CQ___gt__
  refine ⟨PySem.W.fnOf "law" "law" (defArgs s_law) (defBody s_law) (defScope s_law) .none kV30 dc30 pm30 an30 cd30 ct30, [], spLaw K [], ?_, ?_, ?_, (fun s u => BindsTo.of_eq rfl), ?_, fun base kb nb tb => ?_⟩
  · intro p hp
    cases hp
  · intro p hp
    cases hp
  · intro p hp
    cases hp
  · intro H a ns hl hH hS
    refine ⟨a, ns, rfl, hS, hl, (fun p hp => ?_), fun _ => rfl⟩
    cases hp
  have TB := (⟨PySem.W.mg_none_of X G z_isinstance, PySem.W.mg_none_of X G z_int, PySem.W.mg_none_of X G z_bool⟩ : TxtB K mg)
  have TC := (⟨PySem.W.mg_none_of X G z_isinstance, PySem.W.mg_none_of X G z_int, PySem.W.mg_none_of X G z_bool, PySem.W.mg_none_of X G z_len, PySem.W.mg_none_of X G z_abs, PySem.W.mg_none_of X G z_list, PySem.W.mg_none_of X G z_tuple, PySem.W.mg_none_of X G z_range, PySem.W.mg_none_of X G z_repr, PySem.W.mg_none_of X G z_str, PySem.W.mg_none_of X G z_zip, PySem.W.mg_none_of X G z_min, PySem.W.mg_none_of X G z_max, PySem.W.mg_none_of X G z_all, PySem.W.mg_none_of X G z_sorted, PySem.W.mg_none_of X G z_enumerate, PySem.W.mg_none_of X G z_ValueError, PySem.W.mg_of X G a_CL, ⟨⟨_, PySem.W.mg_of X G a_CK, rfl⟩, ⟨pg_CK, hd_CK, po_CK, sa_CK⟩, yk_CK, ya_CK, yb, yc, yd_CK⟩, ⟨⟨_, PySem.W.mg_of X G aZB, rfl⟩, ⟨gZB, hZB, xZB, dZB, jZB, yb, yc, rZB⟩, ⟨gZB, hZB, xZB, dZB⟩, (List.forall_mem_cons.mpr ⟨nZB_value, (fun _ h => nomatch h)⟩), k1ZB, emZB, kVZB⟩, ⟨⟨_, PySem.W.mg_of X G aZC, rfl⟩, ⟨gZC, hZC, xZC, dZC, jZC, yb, yc, rZC⟩, ⟨gZC, hZC, xZC, dZC⟩, (List.forall_mem_cons.mpr ⟨nZC_part, (fun _ h => nomatch h)⟩), k1ZC, emZC, kVZC⟩, ⟨⟨_, PySem.W.mg_of X G aZM, rfl⟩, ⟨gZM, hZM, xZM, dZM, jZM, yb, yc, rZM⟩, ⟨gZM, hZM, xZM, dZM⟩, (List.forall_mem_cons.mpr ⟨nZM_what, (List.forall_mem_cons.mpr ⟨nZM_most, (fun _ h => nomatch h)⟩)⟩), k1ZM, emZM, kVZM⟩, ⟨⟨_, PySem.W.mg_of X G aZN, rfl⟩, ⟨gZN, hZN, xZN, dZN, jZN, yb, yc, rZN⟩, ⟨gZN, hZN, xZN, dZN⟩, (List.forall_mem_cons.mpr ⟨nZN_at, (fun _ h => nomatch h)⟩), k1ZN, emZN, kVZN⟩, ⟨⟨_, PySem.W.mg_of X G aZT, rfl⟩, ⟨gZT, hZT, xZT, dZT, jZT, yb, yc, rZT⟩, ⟨gZT, hZT, xZT, dZT⟩, (List.forall_mem_cons.mpr ⟨nZT_line, (List.forall_mem_cons.mpr ⟨nZT_word, (fun _ h => nomatch h)⟩)⟩), k1ZT, emZT, kVZT⟩, kMW, kWM, kCI, kCS, kCLT, kTC, ⟨cf1_CK, cf2_CK, cf3_CK, yd_CK, cf5_CK⟩, n_CK_sizes, n_CK_ends, n_CK_total, n_CK_rests, ⟨_, PySem.W.mg_of X G gMS, ⟨_, rfl⟩⟩, ⟨_, PySem.W.mg_of X G gMC, ⟨_, rfl⟩⟩, ⟨_, PySem.W.mg_of X G gMI, ⟨_, rfl⟩⟩, ⟨_, PySem.W.mg_of X G gMF, ⟨_, rfl⟩⟩, digs⟩ : TxtC K mg CK CB CC CM CL CL CN BT)
  have TW := (⟨PySem.W.mg_none_of X G z_isinstance, PySem.W.mg_none_of X G z_int, PySem.W.mg_none_of X G z_bool, PySem.W.mg_none_of X G z_len, PySem.W.mg_none_of X G z_str, PySem.W.mg_none_of X G z_list, PySem.W.mg_none_of X G z_dict, PySem.W.mg_none_of X G z_tuple, PySem.W.mg_none_of X G z_sorted, PySem.W.mg_none_of X G z_sum, PySem.W.mg_none_of X G z_min, PySem.W.mg_none_of X G z_max, PySem.W.mg_none_of X G z_all, PySem.W.mg_none_of X G z_any, ⟨⟨_, PySem.W.mg_of X G a_CW, rfl⟩, ⟨pg_CW, hd_CW, po_CW, sa_CW⟩, yk_CW, ya_CW, yb, yc, yd_CW⟩, ⟨⟨_, PySem.W.mg_of X G aZNa, rfl⟩, ⟨gZNa, hZNa, xZNa, dZNa, jZNa, yb, yc, rZNa⟩, ⟨gZNa, hZNa, xZNa, dZNa⟩, (List.forall_mem_cons.mpr ⟨nZNa_value, (fun _ h => nomatch h)⟩), k1ZNa, emZNa, kVZNa⟩, ⟨⟨_, PySem.W.mg_of X G aZSp, rfl⟩, ⟨gZSp, hZSp, xZSp, dZSp, jZSp, yb, yc, rZSp⟩, ⟨gZSp, hZSp, xZSp, dZSp⟩, (List.forall_mem_cons.mpr ⟨nZSp_value, (fun _ h => nomatch h)⟩), k1ZSp, emZSp, kVZSp⟩, ⟨⟨_, PySem.W.mg_of X G aZCr, rfl⟩, ⟨gZCr, hZCr, xZCr, dZCr, jZCr, yb, yc, rZCr⟩, ⟨gZCr, hZCr, xZCr, dZCr⟩, (List.forall_mem_cons.mpr ⟨nZCr_part, (fun _ h => nomatch h)⟩), k1ZCr, emZCr, kVZCr⟩, ⟨⟨_, PySem.W.mg_of X G aZM, rfl⟩, ⟨gZM, hZM, xZM, dZM, jZM, yb, yc, rZM⟩, ⟨gZM, hZM, xZM, dZM⟩, (List.forall_mem_cons.mpr ⟨nZM_what, (List.forall_mem_cons.mpr ⟨nZM_most, (fun _ h => nomatch h)⟩)⟩), k1ZM, emZM, kVZM⟩, ⟨⟨_, PySem.W.mg_of X G aZNw, rfl⟩, ⟨gZNw, hZNw, xZNw, dZNw, jZNw, yb, yc, rZNw⟩, ⟨gZNw, hZNw, xZNw, dZNw⟩, (List.forall_mem_cons.mpr ⟨nZNw_name, (fun _ h => nomatch h)⟩), k1ZNw, emZNw, kVZNw⟩, n_CW_own_speeds, n_CW_workers, n_CW_speed, n_CW_slowest, n_CW_fastest, ⟨_, PySem.W.mg_of X G gWo, rfl⟩, fun H => .inr ⟨_, _, _, lWo, rfl, rfl, (show 10 ≤ sizeLine by decide), (.cons ⟨_, rfl⟩ (.cons ⟨_, rfl⟩ (.cons ⟨_, rfl⟩ (.cons ⟨_, rfl⟩ (.cons ⟨_, rfl⟩ (.cons ⟨_, rfl⟩ (.cons ⟨_, rfl⟩ (.cons ⟨_, rfl⟩ (.cons ⟨_, rfl⟩ (.cons ⟨_, rfl⟩ .nil))))))))))⟩, ⟨_, PySem.W.mg_of X G gSi, ⟨_, rfl⟩⟩, ⟨_, PySem.W.mg_of X G gSp, ⟨_, rfl⟩⟩, ⟨_, PySem.W.mg_of X G gMW, ⟨_, rfl⟩⟩⟩ : TxtW K mg CW BN BS BW CM NW CL aW)
  have TS := (⟨PySem.W.mg_none_of X G z_isinstance, ⟨⟨_, PySem.W.mg_of X G a_CS, rfl⟩, ⟨pg_CS, hd_CS, po_CS, sa_CS⟩, yk_CS, ya_CS, yb, yc, yd_CS⟩, ⟨_, PySem.W.mg_of X G a_CW, rfl⟩, ⟨_, PySem.W.mg_of X G a_CQ, rfl⟩, ⟨⟨_, PySem.W.mg_of X G aZRe, rfl⟩, ⟨gZRe, hZRe, xZRe, dZRe, jZRe, yb, yc, rZRe⟩, ⟨gZRe, hZRe, xZRe, dZRe⟩, (List.forall_mem_cons.mpr ⟨nZRe_value, (fun _ h => nomatch h)⟩), k1ZRe, emZRe, kVZRe⟩, ⟨⟨_, PySem.W.mg_of X G aZC, rfl⟩, ⟨gZC, hZC, xZC, dZC, jZC, yb, yc, rZC⟩, ⟨gZC, hZC, xZC, dZC⟩, (List.forall_mem_cons.mpr ⟨nZC_part, (fun _ h => nomatch h)⟩), k1ZC, emZC, kVZC⟩, ⟨⟨_, PySem.W.mg_of X G aZB, rfl⟩, ⟨gZB, hZB, xZB, dZB, jZB, yb, yc, rZB⟩, ⟨gZB, hZB, xZB, dZB⟩, (List.forall_mem_cons.mpr ⟨nZB_value, (fun _ h => nomatch h)⟩), k1ZB, emZB, kVZB⟩, ⟨⟨_, PySem.W.mg_of X G aZSe, rfl⟩, ⟨gZSe, hZSe, xZSe, dZSe, jZSe, yb, yc, rZSe⟩, ⟨gZSe, hZSe, xZSe, dZSe⟩, (List.forall_mem_cons.mpr ⟨nZSe_part, (fun _ h => nomatch h)⟩), k1ZSe, emZSe, kVZSe⟩, ⟨⟨_, PySem.W.mg_of X G aZCo, rfl⟩, ⟨gZCo, hZCo, xZCo, dZCo, jZCo, yb, yc, rZCo⟩, ⟨gZCo, hZCo, xZCo, dZCo⟩, (List.forall_mem_cons.mpr ⟨nZCo_value, (fun _ h => nomatch h)⟩), k1ZCo, emZCo, kVZCo⟩, ⟨⟨_, PySem.W.mg_of X G aZFe, rfl⟩, ⟨gZFe, hZFe, xZFe, dZFe, jZFe, yb, yc, rZFe⟩, ⟨gZFe, hZFe, xZFe, dZFe⟩, (List.forall_mem_cons.mpr ⟨nZFe_value, (fun _ h => nomatch h)⟩), k1ZFe, emZFe, kVZFe⟩, n_CS_crew, n_CS_least, n_CS_most, n_CS_fee, n_CS_own_slow, n_CS_own_fast, n_CS_lowest, ⟨pg_CW, hd_CW, po_CW, sa_CW⟩, ⟨⟨_, PySem.W.mg_of X G a_CW, rfl⟩, ⟨pg_CW, hd_CW, po_CW, sa_CW⟩, yk_CW, ya_CW, yb, yc, yd_CW⟩, n_CW_speed, n_CW_slowest, n_CW_fastest, ⟨_, PySem.W.mg_of X G gCo, ⟨_, rfl⟩⟩, ⟨_, PySem.W.mg_of X G gFe, ⟨_, rfl⟩⟩⟩ : TxtS K mg CS CW CQ BE CC CB SE BA BF CL)
  have TQ := (⟨PySem.W.mg_none_of X G z_isinstance, PySem.W.mg_none_of X G z_int, PySem.W.mg_none_of X G z_bool, PySem.W.mg_none_of X G z_len, PySem.W.mg_none_of X G z_abs, PySem.W.mg_none_of X G z_list, PySem.W.mg_none_of X G z_range, PySem.W.mg_none_of X G z_repr, ⟨_, PySem.W.mg_of X G a_CQ, rfl⟩, ⟨_, PySem.W.mg_of X G aZQ, rfl⟩, PySem.W.mg_of X G a_CL, ⟨pg_CQ, hd_CQ, po_CQ, sa_CQ⟩, n_CQ_over, n_CQ_under, yoQ, yiQ, yk_CQ, ya_CQ, yb, yc, yd_CQ, ⟨gZQ, hZQ, xZQ, dZQ, jZQ, yb, yc, rZQ⟩, ⟨gZQ, hZQ, xZQ, dZQ⟩, nZQ_value, k1ZQ, emZQ⟩ : TxtQ K mg CQ BR CL)
  have TL := (⟨PySem.W.mg_none_of X G z_isinstance, PySem.W.mg_none_of X G z_len, PySem.W.mg_none_of X G z_tuple, PySem.W.mg_none_of X G z_enumerate, ⟨⟨_, PySem.W.mg_of X G a_CK, rfl⟩, ⟨pg_CK, hd_CK, po_CK, sa_CK⟩, yk_CK, ya_CK, yb, yc, yd_CK⟩, ⟨⟨_, PySem.W.mg_of X G a_CS, rfl⟩, ⟨pg_CS, hd_CS, po_CS, sa_CS⟩, yk_CS, ya_CS, yb, yc, yd_CS⟩, ⟨⟨_, PySem.W.mg_of X G aZC, rfl⟩, ⟨gZC, hZC, xZC, dZC, jZC, yb, yc, rZC⟩, ⟨gZC, hZC, xZC, dZC⟩, (List.forall_mem_cons.mpr ⟨nZC_part, (fun _ h => nomatch h)⟩), k1ZC, emZC, kVZC⟩, ⟨⟨_, PySem.W.mg_of X G aZSe, rfl⟩, ⟨gZSe, hZSe, xZSe, dZSe, jZSe, yb, yc, rZSe⟩, ⟨gZSe, hZSe, xZSe, dZSe⟩, (List.forall_mem_cons.mpr ⟨nZSe_part, (fun _ h => nomatch h)⟩), k1ZSe, emZSe, kVZSe⟩, ⟨⟨_, PySem.W.mg_of X G aZN, rfl⟩, ⟨gZN, hZN, xZN, dZN, jZN, yb, yc, rZN⟩, ⟨gZN, hZN, xZN, dZN⟩, (List.forall_mem_cons.mpr ⟨nZN_at, (fun _ h => nomatch h)⟩), k1ZN, emZN, kVZN⟩, n_CK_sizes, n_CK_rests⟩ : TxtL K mg (⟨CK, CS, CW, CQ, CC, SE, BE, CB, CN⟩ : LaA) CL)
  have TP := (⟨PySem.W.mg_none_of X G z_list, PySem.W.mg_none_of X G z_int, PySem.W.mg_none_of X G z_len, PySem.W.mg_none_of X G z_abs⟩ : TxtP K mg)
  have SZB : SupF l.prog K mg CB fZB cdZB ccZB (defScope s_BadSize___init__) := ⟨⟨eZB, sZB, xZB, yZB, kZB⟩, ⟨_, _, _, qZB⟩, ⟨_, _, _, _, _, _, uZB, vZB, wZB⟩, mZB, PySem.W.mg_none_of X G zS, tS, oB, pZB, bZB, by decide +kernel, by decide +kernel⟩
  have e_BadSize : Er1 l.prog w K mg base "BadSize" CB "value" := ⟨⟨eZB, sZB, xZB, yZB, kZB⟩, PySem.W.mg_of X G aZB, fZB, _, "value", iZB, tZB, ok_BadSize lZB cZB SZB nZB_value, .all (fun us hl => match us, hl with | [_, _], _ => rfl)⟩
  have SZC : SupF l.prog K mg CC fZC cdZC ccZC (defScope s_BadChunks___init__) := ⟨⟨eZC, sZC, xZC, yZC, kZC⟩, ⟨_, _, _, qZC⟩, ⟨_, _, _, _, _, _, uZC, vZC, wZC⟩, mZC, PySem.W.mg_none_of X G zS, tS, oB, pZC, bZC, by decide +kernel, by decide +kernel⟩
  have e_BadChunks : Er1 l.prog w K mg base "BadChunks" CC "part" := ⟨⟨eZC, sZC, xZC, yZC, kZC⟩, PySem.W.mg_of X G aZC, fZC, _, "part", iZC, tZC, ok_BadChunks lZC cZC SZC nZC_part, .all (fun us hl => match us, hl with | [_, _], _ => rfl)⟩
  have SZM : SupF l.prog K mg CM fZM cdZM ccZM (defScope s_TooMany___init__) := ⟨⟨eZM, sZM, xZM, yZM, kZM⟩, ⟨_, _, _, qZM⟩, ⟨_, _, _, _, _, _, uZM, vZM, wZM⟩, mZM, PySem.W.mg_none_of X G zS, tS, oB, pZM, bZM, by decide +kernel, by decide +kernel⟩
  have e_TooMany : Er2 l.prog w K mg base "TooMany" CM "what" "most" := ⟨⟨eZM, sZM, xZM, yZM, kZM⟩, PySem.W.mg_of X G aZM, fZM, _, "what", "most", iZM, tZM, ok_TooMany lZM cZM SZM nZM_what nZM_most, .all (fun us hl => match us, hl with | [_, _, _], _ => rfl)⟩
  have SZN : SupF l.prog K mg CN fZN cdZN ccZN (defScope s_NoChunk___init__) := ⟨⟨eZN, sZN, xZN, yZN, kZN⟩, ⟨_, _, _, qZN⟩, ⟨_, _, _, _, _, _, uZN, vZN, wZN⟩, mZN, PySem.W.mg_none_of X G zS, tS, oB, pZN, bZN, by decide +kernel, by decide +kernel⟩
  have e_NoChunk : Er1 l.prog w K mg base "NoChunk" CN "at" := ⟨⟨eZN, sZN, xZN, yZN, kZN⟩, PySem.W.mg_of X G aZN, fZN, _, "at", iZN, tZN, ok_NoChunk lZN cZN SZN nZN_at, .all (fun us hl => match us, hl with | [_, _], _ => rfl)⟩
  have SZNa : SupF l.prog K mg BN fZNa cdZNa ccZNa (defScope s_BadName___init__) := ⟨⟨eZNa, sZNa, xZNa, yZNa, kZNa⟩, ⟨_, _, _, qZNa⟩, ⟨_, _, _, _, _, _, uZNa, vZNa, wZNa⟩, mZNa, PySem.W.mg_none_of X G zS, tS, oB, pZNa, bZNa, by decide +kernel, by decide +kernel⟩
  have e_BadName : Er1 l.prog w K mg base "BadName" BN "value" := ⟨⟨eZNa, sZNa, xZNa, yZNa, kZNa⟩, PySem.W.mg_of X G aZNa, fZNa, _, "value", iZNa, tZNa, ok_BadName lZNa cZNa SZNa nZNa_value, .all (fun us hl => match us, hl with | [_, _], _ => rfl)⟩
  have SZSp : SupF l.prog K mg BS fZSp cdZSp ccZSp (defScope s_BadSpeed___init__) := ⟨⟨eZSp, sZSp, xZSp, yZSp, kZSp⟩, ⟨_, _, _, qZSp⟩, ⟨_, _, _, _, _, _, uZSp, vZSp, wZSp⟩, mZSp, PySem.W.mg_none_of X G zS, tS, oB, pZSp, bZSp, by decide +kernel, by decide +kernel⟩
  have e_BadSpeed : Er1 l.prog w K mg base "BadSpeed" BS "value" := ⟨⟨eZSp, sZSp, xZSp, yZSp, kZSp⟩, PySem.W.mg_of X G aZSp, fZSp, _, "value", iZSp, tZSp, ok_BadSpeed lZSp cZSp SZSp nZSp_value, .all (fun us hl => match us, hl with | [_, _], _ => rfl)⟩
  have SZCr : SupF l.prog K mg BW fZCr cdZCr ccZCr (defScope s_BadCrew___init__) := ⟨⟨eZCr, sZCr, xZCr, yZCr, kZCr⟩, ⟨_, _, _, qZCr⟩, ⟨_, _, _, _, _, _, uZCr, vZCr, wZCr⟩, mZCr, PySem.W.mg_none_of X G zS, tS, oB, pZCr, bZCr, by decide +kernel, by decide +kernel⟩
  have e_BadCrew : Er1 l.prog w K mg base "BadCrew" BW "part" := ⟨⟨eZCr, sZCr, xZCr, yZCr, kZCr⟩, PySem.W.mg_of X G aZCr, fZCr, _, "part", iZCr, tZCr, ok_BadCrew lZCr cZCr SZCr nZCr_part, .all (fun us hl => match us, hl with | [_, _], _ => rfl)⟩
  have SZNw : SupF l.prog K mg NW fZNw cdZNw ccZNw (defScope s_NoWorker___init__) := ⟨⟨eZNw, sZNw, xZNw, yZNw, kZNw⟩, ⟨_, _, _, qZNw⟩, ⟨_, _, _, _, _, _, uZNw, vZNw, wZNw⟩, mZNw, PySem.W.mg_none_of X G zS, tS, oB, pZNw, bZNw, by decide +kernel, by decide +kernel⟩
  have e_NoWorker : Er1 l.prog w K mg base "NoWorker" NW "name" := ⟨⟨eZNw, sZNw, xZNw, yZNw, kZNw⟩, PySem.W.mg_of X G aZNw, fZNw, _, "name", iZNw, tZNw, ok_NoWorker lZNw cZNw SZNw nZNw_name, .all (fun us hl => match us, hl with | [_, _], _ => rfl)⟩
  have SZQ : SupF l.prog K mg BR fZQ cdZQ ccZQ (defScope s_BadRatio___init__) := ⟨⟨eZQ, sZQ, xZQ, yZQ, kZQ⟩, ⟨_, _, _, qZQ⟩, ⟨_, _, _, _, _, _, uZQ, vZQ, wZQ⟩, mZQ, PySem.W.mg_none_of X G zS, tS, oB, pZQ, bZQ, by decide +kernel, by decide +kernel⟩
  have e_BadRatio : Er1 l.prog w K mg base "BadRatio" BR "value" := ⟨⟨eZQ, sZQ, xZQ, yZQ, kZQ⟩, PySem.W.mg_of X G aZQ, fZQ, _, "value", iZQ, tZQ, ok_BadRatio lZQ cZQ SZQ nZQ_value, .all (fun us hl => match us, hl with | [_, _], _ => rfl)⟩
  have SZRe : SupF l.prog K mg BE fZRe cdZRe ccZRe (defScope s_BadRest___init__) := ⟨⟨eZRe, sZRe, xZRe, yZRe, kZRe⟩, ⟨_, _, _, qZRe⟩, ⟨_, _, _, _, _, _, uZRe, vZRe, wZRe⟩, mZRe, PySem.W.mg_none_of X G zS, tS, oB, pZRe, bZRe, by decide +kernel, by decide +kernel⟩
  have e_BadRest : Er1 l.prog w K mg base "BadRest" BE "value" := ⟨⟨eZRe, sZRe, xZRe, yZRe, kZRe⟩, PySem.W.mg_of X G aZRe, fZRe, _, "value", iZRe, tZRe, ok_BadRest lZRe cZRe SZRe nZRe_value, .all (fun us hl => match us, hl with | [_, _], _ => rfl)⟩
  have SZSe : SupF l.prog K mg SE fZSe cdZSe ccZSe (defScope s_BadSetting___init__) := ⟨⟨eZSe, sZSe, xZSe, yZSe, kZSe⟩, ⟨_, _, _, qZSe⟩, ⟨_, _, _, _, _, _, uZSe, vZSe, wZSe⟩, mZSe, PySem.W.mg_none_of X G zS, tS, oB, pZSe, bZSe, by decide +kernel, by decide +kernel⟩
  have e_BadSetting : Er1 l.prog w K mg base "BadSetting" SE "part" := ⟨⟨eZSe, sZSe, xZSe, yZSe, kZSe⟩, PySem.W.mg_of X G aZSe, fZSe, _, "part", iZSe, tZSe, ok_BadSetting lZSe cZSe SZSe nZSe_part, .all (fun us hl => match us, hl with | [_, _], _ => rfl)⟩
  have SZCo : SupF l.prog K mg BA fZCo cdZCo ccZCo (defScope s_BadCost___init__) := ⟨⟨eZCo, sZCo, xZCo, yZCo, kZCo⟩, ⟨_, _, _, qZCo⟩, ⟨_, _, _, _, _, _, uZCo, vZCo, wZCo⟩, mZCo, PySem.W.mg_none_of X G zS, tS, oB, pZCo, bZCo, by decide +kernel, by decide +kernel⟩
  have e_BadCost : Er1 l.prog w K mg base "BadCost" BA "value" := ⟨⟨eZCo, sZCo, xZCo, yZCo, kZCo⟩, PySem.W.mg_of X G aZCo, fZCo, _, "value", iZCo, tZCo, ok_BadCost lZCo cZCo SZCo nZCo_value, .all (fun us hl => match us, hl with | [_, _], _ => rfl)⟩
  have SZFe : SupF l.prog K mg BF fZFe cdZFe ccZFe (defScope s_BadFee___init__) := ⟨⟨eZFe, sZFe, xZFe, yZFe, kZFe⟩, ⟨_, _, _, qZFe⟩, ⟨_, _, _, _, _, _, uZFe, vZFe, wZFe⟩, mZFe, PySem.W.mg_none_of X G zS, tS, oB, pZFe, bZFe, by decide +kernel, by decide +kernel⟩
  have e_BadFee : Er1 l.prog w K mg base "BadFee" BF "value" := ⟨⟨eZFe, sZFe, xZFe, yZFe, kZFe⟩, PySem.W.mg_of X G aZFe, fZFe, _, "value", iZFe, tZFe, ok_BadFee lZFe cZFe SZFe nZFe_value, .all (fun us hl => match us, hl with | [_, _], _ => rfl)⟩
  have c_is_integer : FnO l.prog w K mg base CX0 1 "is_integer" ["value"] (spIsI2 K) := ⟨⟨f1, _, ok_is_integer F1 TB, PySem.W.mg_of X G a1, k1, bMk F1 (fun _ _ _ _ _ _ us hl => match us, hl with | [_], _ => rfl)⟩⟩
  have c_is_within : FnO l.prog w K mg base CX0 2 "is_within" ["value", "least", "most"] (spWithin2 K) := ⟨⟨f2, _, ok_is_within F2 TB c_is_integer, PySem.W.mg_of X G a2, k2, bMk F2 (fun _ _ _ _ _ _ us hl => match us, hl with | [_, _, _], _ => rfl)⟩⟩
  have c_is_size : FnO l.prog w K mg base CX0 3 "is_size" ["value"] (spSize2 K) := ⟨⟨f3, _, ok_is_size F3 TC c_is_within, PySem.W.mg_of X G a3, k3, bMk F3 (fun _ _ _ _ _ _ us hl => match us, hl with | [_], _ => rfl)⟩⟩
  have c_need_size : FnO l.prog w K mg base (L2.CX l.prog w) 4 "need_size" ["value"] (spNeedSize K CB) := ⟨⟨f4, _, ok_need_size F4 TC c_is_size e_BadSize, PySem.W.mg_of X G a4, k4, bMk F4 (fun _ _ _ _ _ _ us hl => match us, hl with | [_], _ => rfl)⟩⟩
  have c_need_few : FnO l.prog w K mg base (L2.CX l.prog w) 3 "need_few" ["many"] (spNeedFew CM) := ⟨⟨f5, _, ok_need_few F5 TC e_TooMany, PySem.W.mg_of X G a5, k5, bMk F5 (fun _ _ _ _ _ _ us hl => match us, hl with | [_], _ => rfl)⟩⟩
  have c_ends_of : FnO l.prog w K mg base CX0 1 "ends_of" ["sizes"] spEnds := ⟨⟨f6, _, ok_ends_of F6 TC, PySem.W.mg_of X G a6, k6, bMk F6 (fun _ _ _ _ _ _ us hl => match us, hl with | [_], _ => rfl)⟩⟩
  have m_Chunks : McR l.prog w K mg base (L2.CX l.prog w) 5 "Chunks" CK (spCk K CK CB CM) := ⟨⟨g_CK___init__, ok_Chunks F_CK___init__ TC c_need_size c_need_few c_ends_of, PySem.W.mg_of X G a_CK, ⟨mk_CK, a_CK___init__, i_CK___init__, kc_CK⟩⟩⟩
  have c_is_name : FnO l.prog w K mg base CX0 1 "is_name" ["value"] (spIsNm K) := ⟨⟨f7, _, ok_is_name F7 TW, PySem.W.mg_of X G a7, k7, bMk F7 (fun _ _ _ _ _ _ us hl => match us, hl with | [_], _ => rfl)⟩⟩
  have c_is_speed : FnO l.prog w K mg base CX0 3 "is_speed" ["value"] (spIn K 60) := ⟨⟨f8, _, ok_is_speed F8 TW c_is_within, PySem.W.mg_of X G a8, k8, bMk F8 (fun _ _ _ _ _ _ us hl => match us, hl with | [_], _ => rfl)⟩⟩
  have c_need_speed : FnO l.prog w K mg base (L2.CX l.prog w) 4 "need_speed" ["value"] (spNeedSpeed K BS) := ⟨⟨f9, _, ok_need_speed F9 TW c_is_speed e_BadSpeed, PySem.W.mg_of X G a9, k9, bMk F9 (fun _ _ _ _ _ _ us hl => match us, hl with | [_], _ => rfl)⟩⟩
  have c_need_speeds : FnO l.prog w K mg base (L2.CX l.prog w) 5 "need_speeds" ["speeds", "names"] (spNeedSps K BN BS) := ⟨⟨f10, _, ok_need_speeds F10 TW c_is_name c_need_speed e_BadName, PySem.W.mg_of X G a10, k10, bMk F10 (fun _ _ _ _ _ _ us hl => match us, hl with | [_, _], _ => rfl)⟩⟩
  have c_first_with : FnO l.prog w K mg base CX0 1 "first_with" ["speeds", "speed"] spFirst := ⟨⟨f11, _, ok_first_with F11 TW, PySem.W.mg_of X G a11, k11, bMk F11 (fun _ _ _ _ _ _ us hl => match us, hl with | [_, _], _ => rfl)⟩⟩
  have m_Crew_kv : McKw l.prog w K mg base (L2.CX l.prog w) 7 "Crew" CW "self" (spCrew CW BW CM) := ⟨⟨g_CW___init__, ok_Crew F_CW___init__ TW c_need_speeds c_first_with e_BadCrew e_TooMany, PySem.W.mg_of X G a_CW, ⟨mk_CW, a_CW___init__, i_CW___init__, kc_CW⟩⟩⟩
  have me_cont : Me l.prog w K mg base CW "__contains__" 1 ["self", "name"] (spContW K CW) := ⟨⟨g_CW___contains__, _, a_CW___contains__, i_CW___contains__, ok_wcont F_CW___contains__ TW, bMk F_CW___contains__ (fun _ _ _ _ _ _ us hl => match us, hl with | [_, _], _ => rfl)⟩⟩
  have get_i : GetM l.prog w K mg base CW 3 ["self", "name"] (spGetW K CW NW) := ⟨⟨g_CW___getitem__, _, a_CW___getitem__, i_CW___getitem__, fi_CW, ns_CW, rfl, ok_wget F_CW___getitem__ TW me_cont e_NoWorker, bMk F_CW___getitem__ (fun _ _ _ _ _ _ us hl => match us, hl with | [_, _], _ => rfl)⟩⟩
  have c_common : FnO l.prog w K mg base CX0 1 "common" ["one", "other"] spCommon := ⟨⟨f12, _, ok_common F12, PySem.W.mg_of X G a12, k12, bMk F12 (fun _ _ _ _ _ _ us hl => match us, hl with | [_, _], _ => rfl)⟩⟩
  have F_CQ___init__ : FunD K "__init__" "Ratio.__init__" (defArgs s_Ratio___init__) (defBody s_Ratio___init__) (defScope s_Ratio___init__) [.int 1] [] g_CQ___init__ _ := ⟨⟨_, _, _, _, _, _, _, _, _, _, rfl, l_CQ___init__, c_CQ___init__, .inr ⟨by simp, T_CQ___init__, _, [.int 1 t_CQ___init__0], nT_CQ___init__, rfl, lT_CQ___init__, rfl, (.cons ⟨_, rfl⟩ .nil)⟩, .inl rfl⟩, k_CQ___init__⟩
  have o_CQ := ok_ratio (P := l.prog) (w := w) (base := base) F_CQ___init__ TQ (isI_od c_is_integer) c_common e_BadRatio
  obtain ⟨dCQ2, vCQ2, bCQ2⟩ := F_CQ___init__.binds1 (ps := ["self", "over", "under"]) 3 1 (by simp) rfl fun T kV doc pm an cdv ct us its h1 h2 => match us, its, h1, h2 with | [_, _, _], [_], _, _ => ⟨_, rfl, rfl⟩
  have m_Ratio_2 : McO l.prog w K mg base (L2.CX l.prog w) 3 "Ratio" CQ ["self", "over", "under"] (spRatio CQ BR) [] := ⟨⟨g_CQ___init__, _, dCQ2, o_CQ, PySem.W.mg_of X G a_CQ, ⟨mk_CQ, a_CQ___init__, i_CQ___init__, kc_CQ⟩, bCQ2, vCQ2⟩⟩
  obtain ⟨dCQ1, vCQ1, bCQ1⟩ := F_CQ___init__.binds1 (ps := ["self", "over", "under"]) 2 0 (by simp) rfl fun T kV doc pm an cdv ct us its h1 h2 => match us, its, h1, h2 with | [_, _], [_], _, _ => ⟨_, rfl, rfl⟩
  have m_Ratio_1 : McO l.prog w K mg base (L2.CX l.prog w) 3 "Ratio" CQ ["self", "over", "under"] (spRatio CQ BR) [.int 1] := ⟨⟨g_CQ___init__, _, dCQ1, o_CQ, PySem.W.mg_of X G a_CQ, ⟨mk_CQ, a_CQ___init__, i_CQ___init__, kc_CQ⟩, bCQ1, vCQ1⟩⟩
  have c_told_of : FnO l.prog w K mg base (L2.CX l.prog w) 5 "told_of" ["value"] (spTold CQ BR) := ⟨⟨f13, _, ok_told F13 TQ (isI_od c_is_integer) m_Ratio_1 e_BadRatio, PySem.W.mg_of X G a13, k13, bMk F13 (fun _ _ _ _ _ _ us hl => match us, hl with | [_], _ => rfl)⟩⟩
  have c_add : BinM l.prog w K mg base CQ .Add 6 (spBin gAdd CQ BR) (spBin gAdd CQ BR) := ⟨⟨sfQ, oQ_add, sIQ, sBQ, vQ_add, uQ_add, xQ_add, mrQ⟩, g_CQ___add__, _, g_CQ___radd__, _, a_CQ___add__, a_CQ___radd__, i_CQ___add__, i_CQ___radd__, ok_add F_CQ___add__ TQ c_told_of m_Ratio_2, bMk F_CQ___add__ (fun _ _ _ _ _ _ us hl => match us, hl with | [_, _], _ => rfl), ok_radd F_CQ___radd__ TQ c_told_of m_Ratio_2, bMk F_CQ___radd__ (fun _ _ _ _ _ _ us hl => match us, hl with | [_, _], _ => rfl)⟩
  have CFQ : CmpF K CQ := ⟨cf1_CQ, cf2_CQ, cf3_CQ, yd_CQ, cf5_CQ⟩
  have m_qlt : Me l.prog w K mg base CQ "__lt__" 6 ["self", "other"] (spCmp gLt CQ BR) := ⟨⟨g_CQ___lt__, _, a_CQ___lt__, i_CQ___lt__, ok_lt F_CQ___lt__ TQ c_told_of, bMk F_CQ___lt__ (fun _ _ _ _ _ _ us hl => match us, hl with | [_, _], _ => rfl)⟩⟩
  have m_qgt : Me l.prog w K mg base CQ "__gt__" 6 ["self", "other"] (spCmp gGt CQ BR) := ⟨⟨g_CQ___gt__, _, a_CQ___gt__, i_CQ___gt__, ok_gt F_CQ___gt__ TQ c_told_of, bMk F_CQ___gt__ (fun _ _ _ _ _ _ us hl => match us, hl with | [_, _], _ => rfl)⟩⟩
  have c_need_spot : FnO l.prog w K mg base (L2.CX l.prog w) 3 "need_spot" ["rest", "place"] (spSpot K BE CC) := ⟨⟨f14, _, ok_need_spot F14 TS c_is_integer e_BadRest e_BadChunks, PySem.W.mg_of X G a14, k14, bMk F14 (fun _ _ _ _ _ _ us hl => match us, hl with | [_, _], _ => rfl)⟩⟩
  have mt_late_of : Mt l.prog w K mg base (L2.CX l.prog w) 8 CS "late_of" "self" ["rest", "place", "size"] (spLate K CS CW CQ BE CC CB) := ⟨⟨g_CS_late_of, _, ⟨pg_CS, hd_CS, po_CS, sa_CS⟩, ⟨a_CS_late_of, i_CS_late_of, k_CS_late_of⟩, ok_late_of F_CS_late_of TS c_need_spot c_is_within m_Ratio_2 c_add e_BadSize, bMk F_CS_late_of (fun _ _ _ _ _ _ us hl => match us, hl with | [_, _, _, _], _ => rfl), bmMk F_CS_late_of (fun _ _ _ _ _ _ a us hl => match us, hl with | [_, _, _], _ => rfl)⟩⟩
  have F_CS___init__ : FunD K "__init__" "Setting.__init__" (defArgs s_Setting___init__) (defBody s_Setting___init__) (defScope s_Setting___init__) [.int 1, .int 1, .int 0] [] g_CS___init__ _ := ⟨⟨_, _, _, _, _, _, _, _, _, _, rfl, l_CS___init__, c_CS___init__, .inr ⟨by simp, T_CS___init__, _, [.int 1 t_CS___init__0, .int 1 t_CS___init__1, .int 0 t_CS___init__2], nT_CS___init__, rfl, lT_CS___init__, rfl, (.cons ⟨_, rfl⟩ (.cons ⟨_, rfl⟩ (.cons ⟨_, rfl⟩ .nil)))⟩, .inl rfl⟩, k_CS___init__⟩
  have o_CS := ok_Setting (P := l.prog) (w := w) (base := base) F_CS___init__ TS c_is_within get_i mt_late_of e_BadSetting e_BadCost e_BadFee
  obtain ⟨dCS4, vCS4, bCS4⟩ := F_CS___init__.binds1 (ps := ["self", "crew", "least", "most", "fee"]) 5 3 (by simp) rfl fun T kV doc pm an cdv ct us its h1 h2 => match us, its, h1, h2 with | [_, _, _, _, _], [_, _, _], _, _ => ⟨_, rfl, rfl⟩
  have m_Setting_4 : McO l.prog w K mg base (L2.CX l.prog w) 9 "Setting" CS ["self", "crew", "least", "most", "fee"] (spSet K CS CW CQ SE BA BF) [] := ⟨⟨g_CS___init__, _, dCS4, o_CS, PySem.W.mg_of X G a_CS, ⟨mk_CS, a_CS___init__, i_CS___init__, kc_CS⟩, bCS4, vCS4⟩⟩
  have st_of : StM l.prog w K mg base (L2.CX l.prog w) 7 CK "of" ["sizes"] (spOf K CK CB CC CM) := ⟨⟨.type "type", p_CK_of, g_CK_of, _, rest_CK_of, ⟨sr_CK, sg_CK⟩, sf_CK_of, sc_CK_of, rfl, k_CK_of, ok_of F_CK_of TC m_Chunks e_BadChunks, bMk F_CK_of (fun _ _ _ _ _ _ us hl => match us, hl with | [_], _ => rfl), bkMk F_CK_of (fun _ _ _ _ _ _ us hl => match us, hl with | [_], _ => rfl)⟩⟩
  have st_cof : StM l.prog w K mg base (L2.CX l.prog w) 9 CW "of" ["speeds"] (spCrewOf CW) := ⟨⟨.type "type", p_CW_of, g_CW_of, _, rest_CW_of, ⟨sr_CW, sg_CW⟩, sf_CW_of, sc_CW_of, rfl, k_CW_of, ok_crew_of F_CW_of TW c_need_speeds m_Crew_kv e_BadCrew, bMk F_CW_of (fun _ _ _ _ _ _ us hl => match us, hl with | [_], _ => rfl), bkMk F_CW_of (fun _ _ _ _ _ _ us hl => match us, hl with | [_], _ => rfl)⟩⟩
  have c_need_list : FnO l.prog w K mg base (L2.CX l.prog w) 3 "need_list" ["chunks", "setting"] (spNeedList K (⟨CK, CS, CW, CQ, CC, SE, BE, CB, CN⟩ : LaA)) := ⟨⟨f15, _, ok_need_list F15 TL e_BadChunks e_BadSetting, PySem.W.mg_of X G a15, k15, bMk F15 (fun _ _ _ _ _ _ us hl => match us, hl with | [_, _], _ => rfl)⟩⟩
  have c_rows_of : FnO l.prog w K mg base (L2.CX l.prog w) 9 "rows_of" ["chunks", "setting"] (spRows (⟨CK, CS, CW, CQ, CC, SE, BE, CB, CN⟩ : LaA)) := ⟨⟨f16, _, ok_rows_of F16 TL mt_late_of, PySem.W.mg_of X G a16, k16, bMk F16 (fun _ _ _ _ _ _ us hl => match us, hl with | [_, _], _ => rfl)⟩⟩
  have c_place_of_greatest : FnO l.prog w K mg base (L2.CX l.prog w) 7 "place_of_greatest" ["found"] (spPlaceG CQ) := ⟨⟨f17, _, ok_place (A := (⟨CK, CS, CW, CQ, CC, SE, BE, CB, CN⟩ : LaA)) F17 TL CFQ m_qgt m_qlt, PySem.W.mg_of X G a17, k17, bMk F17 (fun _ _ _ _ _ _ us hl => match us, hl with | [_], _ => rfl)⟩⟩
  have c_lateness : FnO l.prog w K mg base (L2.CX l.prog w) 10 "lateness" ["chunks", "setting"] (spLatG K (⟨CK, CS, CW, CQ, CC, SE, BE, CB, CN⟩ : LaA)) := ⟨⟨f18, _, ok_lateness F18 TL c_need_list c_rows_of c_place_of_greatest, PySem.W.mg_of X G a18, k18, bMk F18 (fun _ _ _ _ _ _ us hl => match us, hl with | [_, _], _ => rfl)⟩⟩
  have TJ := (⟨PySem.W.mg_none_of X G z_int, PySem.W.mg_none_of X G z_len, PySem.W.mg_none_of X G z_sum, PySem.W.mg_none_of X G z_min, PySem.W.mg_none_of X G z_max, PySem.W.mg_none_of X G z_range, PySem.W.mg_none_of X G z_enumerate, PySem.W.mg_none_of X G z_isinstance, PySem.W.mg_none_of X G z_tuple, ⟨_, PySem.W.mg_of X G a_CW, rfl⟩, ⟨_, PySem.W.mg_of X G a_CQ, rfl⟩, ⟨_, PySem.W.mg_of X G a_CK, rfl⟩⟩ : TxtJ K mg (⟨CK, CS, CW, CQ, CC, SE, BE, CB, CN⟩ : LaA))
  have c__law_pen : Fn l.prog w K mg base CX0 1 "_law_pen" ["_law_script"] (spPen K) := fnMk F19 (ok_pen F19 TP) (PySem.W.mg_of X G a19) (fun _ _ _ _ _ _ us hl => match us, hl with | [_], _ => rfl) (fun _ _ _ _ _ _ us hl => match us, hl with | [_], _ => rfl)
  have c__law_draw : Fn l.prog w K mg base CX0 1 "_law_draw" ["_law_pen_here", "_law_many"] spDraw := fnMk F20 (ok_draw F20 TP) (PySem.W.mg_of X G a20) (fun _ _ _ _ _ _ us hl => match us, hl with | [_, _], _ => rfl) (fun _ _ _ _ _ _ us hl => match us, hl with | [_, _], _ => rfl)
  have c__law_pick : Fn l.prog w K mg base CX0 2 "_law_pick" ["_law_pen_here", "_law_some"] spPick := fnMk F21 (ok_pick F21 TP c__law_draw) (PySem.W.mg_of X G a21) (fun _ _ _ _ _ _ us hl => match us, hl with | [_, _], _ => rfl) (fun _ _ _ _ _ _ us hl => match us, hl with | [_, _], _ => rfl)
  have c__law_setting : Fn l.prog w K mg base CX0 11 "_law_setting" ["_law_plan"] (spSetP CS CW CQ) := fnMk F22 (ok_setP F22 TJ st_cof m_Setting_4) (PySem.W.mg_of X G a22) (fun _ _ _ _ _ _ us hl => match us, hl with | [_], _ => rfl) (fun _ _ _ _ _ _ us hl => match us, hl with | [_], _ => rfl)
  have c__law_common : Fn l.prog w K mg base CX0 1 "_law_common" ["_law_plan"] spComT := fnMk F23 (ok_comT F23 (PySem.W.mg_none_of X G z_int)) (PySem.W.mg_of X G a23) (fun _ _ _ _ _ _ us hl => match us, hl with | [_], _ => rfl) (fun _ _ _ _ _ _ us hl => match us, hl with | [_], _ => rfl)
  have c__law_offered : Fn l.prog w K mg base CX0 1 "_law_offered" ["_law_plan", "_law_ready", "_law_moment"] spOffT := fnMk F24 (ok_offT F24) (PySem.W.mg_of X G a24) (fun _ _ _ _ _ _ us hl => match us, hl with | [_, _, _], _ => rfl) (fun _ _ _ _ _ _ us hl => match us, hl with | [_, _, _], _ => rfl)
  have c__law_played : Fn l.prog w K mg base CX0 2 "_law_played" ["_law_plan", "_law_ready", "_law_costs", "_law_order"] spPlayT := fnMk F25 (ok_playT F25 (PySem.W.mg_none_of X G z_int) (PySem.W.mg_none_of X G z_dict) (PySem.W.mg_none_of X G z_min) (PySem.W.mg_none_of X G z_max) c__law_common) (PySem.W.mg_of X G a25) (fun _ _ _ _ _ _ us hl => match us, hl with | [_, _, _, _], _ => rfl) (fun _ _ _ _ _ _ us hl => match us, hl with | [_, _, _, _], _ => rfl)
  have c__law_is_later : Fn l.prog w K mg base CX0 3 "_law_is_later" ["_law_plan", "_law_ready", "_law_costs", "_law_order", "_law_late_here", "_law_under_here"] spLatT := fnMk F26 (ok_latT F26 (PySem.W.mg_none_of X G z_dict) (PySem.W.mg_none_of X G z_sum) c__law_common c__law_played c__law_offered) (PySem.W.mg_of X G a26) (fun _ _ _ _ _ _ us hl => match us, hl with | [_, _, _, _, _, _], _ => rfl) (fun _ _ _ _ _ _ us hl => match us, hl with | [_, _, _, _, _, _], _ => rfl)
  have c__law_all_costs : Fn l.prog w K mg base CX0 1 "_law_all_costs" ["_law_plan", "_law_sizes_here"] spAllC := fnMk F27 (ok_allC F27 (PySem.W.mg_none_of X G z_int) (PySem.W.mg_none_of X G z_set) (PySem.W.mg_none_of X G z_sorted)) (PySem.W.mg_of X G a27) (fun _ _ _ _ _ _ us hl => match us, hl with | [_, _], _ => rfl) (fun _ _ _ _ _ _ us hl => match us, hl with | [_, _], _ => rfl)
  have c__law_worst : Fn l.prog w K mg base CX0 4 "_law_worst" ["_law_plan", "_law_sizes_here", "_law_late_here", "_law_under_here"] spWorstT := fnMk F28 (ok_worstT F28 (PySem.W.mg_none_of X G z_sum) (PySem.W.mg_none_of X G z_len) (PySem.W.mg_none_of X G z_range) c__law_common c__law_all_costs c__law_is_later) (PySem.W.mg_of X G a28) (fun _ _ _ _ _ _ us hl => match us, hl with | [_, _, _, _], _ => rfl) (fun _ _ _ _ _ _ us hl => match us, hl with | [_, _, _, _], _ => rfl)
  have c__law_right : Fn l.prog w K mg base CX0 12 "_law_right" ["_law_pen_here"] spRightT := fnMk F29 (ok_rightT F29 TJ TQ (PySem.W.mg_none_of X G z_range) c_lateness st_of c__law_draw c__law_pick c__law_setting c__law_worst) (PySem.W.mg_of X G a29) (fun _ _ _ _ _ _ us hl => match us, hl with | [_], _ => rfl) (fun _ _ _ _ _ _ us hl => match us, hl with | [_], _ => rfl)
  exact ok_lawT F30 (PySem.W.mg_none_of X G z_range) c__law_pen c__law_right c__law_worst
end K30
end
section
set_option maxRecDepth 100000 in
set_option maxHeartbeats 0 in
theorem PySem.Challenge.cw_latechunks_k30_whole_small_lists_over_al_holds : PySem.Challenge.rw_latechunks_k30_whole_small_lists_over_al.Holds :=
  K30H.head @K30.all_mk
end
