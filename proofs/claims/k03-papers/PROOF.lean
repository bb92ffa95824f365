import PyProof.Rows.All
import Wide.All
import OpenK.AllK
import Wide.FinOn
import HandS.ForMost
import HandS.Wide
import HandS.IsInst
import HandS.Defaults
import HandS.Evl
import HandS.EndTab
import HandS.Lambda
import HandS.Style
import HandS.Steps
import HandS.Text
import PyProof.ReprRoads
import PyProof.ListStr
import PyProof.StrOps2
import HandS.Walk
import HandS.ExcInit
import HandS.Nested
import HandS.ExcValue
import KE.KExcSuper
import HandS.ExcIs
import HandS.ExcField
import KE.KOpsOwn
import PyProof.Rows.Range3
import PyProof.Conv_bool
import HandS.HotCalls
import PyProof.EqAt
import HandS.ClsMeth
import HandS.MakeKwOnly
import HandS.FStr
import KE.KCallOwn
import PyProof.Rows.StrOr
import PyProof.TypeEq
import HandS.DeepEq
import KE.KEqDict
import PySem.Challenge.RW_latechunks_k03_papers_of_all_kinds
set_option Elab.async false
set_option linter.all false
set_option maxRecDepth 100000
set_option maxHeartbeats 4000000
section
namespace L3
open PySem PySem.Spec PyProof.Rows L2
/-! ## The pen: a list [cells, spot, rest] whose numbers are hidden; at most n draws so far -/
def PenO (a c : Addr) (n : Nat) : HO := .ext fun h => ∃ (spot rest : Int) (t u : Tok) (k : Nat),
  h.get? a = some { cls := .type "list", data := .seq #[.ref c, .int spot t, .int rest u] k } ∧ 0 ≤ spot ∧ spot ≤ n
theorem PenO_ok {P : Program} {w : World} {H : Hp} {h : Heap} {a c : Addr} {n : Nat} {spot rest : Int} {t u : Tok} {k : Nat}
    (e : h.get? a = some { cls := .type "list", data := .seq #[.ref c, .int spot t, .int rest u] k }) (h0 : 0 ≤ spot) (h1 : spot ≤ n) :
    ObjOk P w H h a (PenO a c n) :=
  ⟨⟨spot, rest, t, u, k, e, h0, h1⟩, ⟨_, e⟩, fun _ _ ⟨s, r, t, u, k, q, z⟩ f => ⟨s, r, t, u, k, f _ q, z⟩⟩
section
variable {X : Cx} {pins : List (Addr × Obj)} {σ : L2.St} {H : Hp} {s : Shared}
theorem Inv.penOpen {a c : Addr} {n : Nat} (I : Inv X pins σ H s) (h : H a = some (PenO a c n)) :
    ∃ spot rest : Int, 0 ≤ spot ∧ spot ≤ n ∧ Inv X pins σ (upd H a (.lst [.ref c, .int spot, .int rest])) s := by
  obtain ⟨⟨spot, rest, t, u, k, e, h0, h1⟩, _, _⟩ := (show ObjOk X.prog X.w H s.heap a (PenO a c n) from I.hok a _ h)
  refine ⟨spot, rest, h0, h1, ?_⟩
  have mu : Mut (H a) := by rw [h]; exact True.intro
  have := I.write (t' := s.toks) (h' := s.heap) (x := a) (e := a) (o := .lst [.ref c, .int spot, .int rest]) mu (.inl rfl) (fun _ _ _ q => q) ⟨_, e⟩
    ⟨(by rw [sizeLine_eq]; show 3 ≤ 16777216; decide), [.ref c, .int spot t, .int rest u], k, .cons rfl (.cons ⟨t, rfl⟩ (.cons ⟨u, rfl⟩ .nil)), e⟩
  exact this
theorem vals3 {x y z : V} {us : List Value} (r : Vals [x, y, z] us) : ∃ u v w, us = [u, v, w] ∧ RelV x u ∧ RelV y v ∧ RelV z w := by
  cases r with
  | cons r1 r =>
    cases r with
    | cons r2 r =>
      cases r with
      | cons r3 r =>
        cases r
        exact ⟨_, _, _, rfl, r1, r2, r3⟩
theorem Inv.penClose {a c : Addr} {n : Nat} {spot rest : Int} (I : Inv X pins σ H s) (h : H a = some (.lst [.ref c, .int spot, .int rest])) (h0 : 0 ≤ spot) (h1 : spot ≤ n) :
    Inv X pins σ (upd H a (PenO a c n)) s := by
  obtain ⟨_, its, k, r, e⟩ := (show ObjOk X.prog X.w H s.heap a (.lst _) from I.hok a _ h)
  obtain ⟨u, v, w, rfl, r1, ⟨t, r2⟩, ⟨t', r3⟩⟩ := vals3 r
  cases (show u = .ref c from r1)
  subst r2 r3
  have mu : Mut (H a) := by rw [h]; exact True.intro
  exact I.write (t' := s.toks) (h' := s.heap) (x := a) (e := a) (o := PenO a c n) mu (.inl rfl) (fun _ _ _ q => q) ⟨_, e⟩ (PenO_ok e h0 h1)
end
/-- inside: the list is known, behind: it is hidden again -/
def penBack (a c : Addr) (n : Nat) (P : Hp → Prop) (H : Hp) : Prop := ∃ spot rest : Int, H a = some (.lst [.ref c, .int spot, .int rest]) ∧ 0 ≤ spot ∧ spot ≤ n ∧ P (upd H a (PenO a c n))
def tPen (a c : Addr) (n m : Nat) (t : TS) : TS := fun D σ H => H a = some (PenO a c n) ∧ ∀ spot rest : Int, 0 ≤ spot → spot ≤ n →
  t { nx := fun σ' => penBack a c m (D.nx σ'), rt := fun v => penBack a c m (D.rt v), bk := fun σ' => penBack a c m (D.bk σ'), ct := fun σ' => penBack a c m (D.ct σ') } σ (upd H a (.lst [.ref c, .int spot, .int rest]))
theorem pss_pen {X : Cx} {sts : List Stmt} {t : TS} (a c : Addr) (n m : Nat) (h : PSs X sts t) : PSs X sts (tPen a c n m t) := by
  refine ⟨fun pins s σ H D I hw => ?_⟩
  obtain ⟨ha, hw⟩ := hw
  obtain ⟨spot, rest, h0, h1, I1⟩ := Inv.penOpen I ha
  refine thn (h.run pins s σ _ _ I1 (hw spot rest h0 h1)) fun f s' q => ?_
  cases f with
  | next =>
    obtain ⟨σ', H', I', sp, re, e, g0, g1, z⟩ := q
    exact ⟨σ', _, Inv.penClose I' e g0 g1, z⟩
  | brk =>
    obtain ⟨σ', H', I', sp, re, e, g0, g1, z⟩ := q
    exact ⟨σ', _, Inv.penClose I' e g0 g1, z⟩
  | cont =>
    obtain ⟨σ', H', I', sp, re, e, g0, g1, z⟩ := q
    exact ⟨σ', _, Inv.penClose I' e g0 g1, z⟩
  | ret u =>
    obtain ⟨v, σ', H', I', r, sp, re, e, g0, g1, z⟩ := q
    exact ⟨v, σ', _, Inv.penClose I' e g0 g1, r, z⟩
end L3
namespace L3
open PySem PySem.Spec PyProof.Rows L2
/-! ## Steps: what a reading asks, one rule each -/
section
variable {σ : L2.St} {H : Hp} {D : Ends} {t u : TS} {te ta tb : TE} {Q : VK} {v x y : V} {K : PySem.W.Frag}
theorem iteB {b : Bool} {A B : Prop} (h1 : b = true → A) (h2 : b = false → B) : if b = true then A else B := by
  cases b with
  | true => exact iteT (h1 rfl)
  | false => exact iteF (h2 rfl)
theorem iteD {c : Prop} {_ : Decidable c} {A B : Prop} (h1 : c → A) (h2 : ¬ c → B) : if decide c = true then A else B := iteB (fun h => h1 (of_decide_eq_true h)) (fun h => h2 (of_decide_eq_false h))
theorem iteND {c : Prop} {_ : Decidable c} {A B : Prop} (h1 : ¬ c → A) (h2 : c → B) : if (!decide c) = true then A else B := iteB (fun h => h1 (by simpa using h)) (fun h => h2 (by simpa using h))
theorem s_seq (h : t { D with nx := u D } σ H) : tSeq t u D σ H := h
theorem s_next (h : D.nx σ H) : tNext D σ H := h
theorem s_asg {i : Nat} (h : te σ H fun x H1 => D.nx (σ.set i (some x)) H1) : tAsg te (gName i) D σ H := h
theorem s_asgS {to ti : TE} {t : TSet} (h : te σ H fun v H1 => to σ H1 fun o H2 => ti σ H2 fun i H3 => t o i v H3 fun H4 => D.nx σ H4) : tAsg te (gSub to ti t) D σ H := h
theorem s_asgT {n : Nat} {tg : TGs} (h : te σ H fun x H1 => gTup K n tg x σ H1 D.nx) : tAsg te (gTup K n tg) D σ H := h
theorem s_drop (h : te σ H fun _ H1 => D.nx σ H1) : tDrop te D σ H := h
theorem s_ret (h : te σ H D.rt) : tRet te D σ H := h
theorem s_retN (h : D.rt .non H) : tRetN D σ H := h
theorem s_if {c : TT} (h : c σ H fun b H1 => if b = true then t D σ H1 else u D σ H1) : tIfS c t u D σ H := h
theorem s_var {i : Nat} (e : σ[i]? = some (some v)) (h : Q v H) : tVar i σ H Q := ⟨v, e, h⟩
theorem s_c (h : Q v H) : tC v σ H Q := h
theorem s_op {r : R2} (h : ta σ H fun x H1 => tb σ H1 fun y H2 => r x y H2 Q) : tOp r ta tb σ H Q := h
theorem s_un {r : V → Hp → VK → Prop} (h : ta σ H fun x H1 => r x H1 Q) : tUn r ta σ H Q := h
theorem s_cb {r : List V → Hp → VK → Prop} {tt : TA} (h : tt σ H fun vs H1 => r vs H1 Q) : tCB r tt σ H Q := h
theorem s_nil {Q : List V → Hp → Prop} (h : Q [] H) : tNil σ H Q := h
theorem s_cons {Q : List V → Hp → Prop} {tr : TA} (h : ta σ H fun x H1 => tr σ H1 fun xs H2 => Q (x :: xs) H2) : tCons ta tr σ H Q := h
theorem s_test {Q : Bool → Hp → Prop} (h : te σ H fun x H' => ∃ k, x = .bl k ∧ Q k H') : tTest te σ H Q := h
theorem s_tB {Q : Bool → Hp → Prop} (h : te σ H fun x H' => ∃ k, x = .bl k ∧ Q k H') : tB te σ H Q := h
theorem s_bl {R : Bool → Prop} {b : Bool} (h : R b) : ∃ k, V.bl b = .bl k ∧ R k := ⟨b, rfl, h⟩
theorem s_and {c d : TT} {Q : Bool → Hp → Prop} (h : c σ H fun b H1 => if b = true then d σ H1 Q else Q false H1) : tAnd c d σ H Q := h
theorem s_or {c d : TT} {Q : Bool → Hp → Prop} (h : c σ H fun b H1 => if b = true then Q true H1 else d σ H1 Q) : tOr c d σ H Q := h
theorem s_not {c : TT} {Q : Bool → Hp → Prop} (h : c σ H fun b H1 => Q (!b) H1) : tNot c σ H Q := h
theorem s_andV (h : ta σ H fun x H1 => ∃ c, x = .bl c ∧ if c = true then tb σ H1 Q else Q (.bl false) H1) : tAndV ta tb σ H Q := h
theorem s_orV (h : ta σ H fun x H1 => ∃ c, x = .bl c ∧ if c = true then Q (.bl true) H1 else tb σ H1 Q) : tOrV ta tb σ H Q := h
theorem s_notV (h : ta σ H fun x H1 => ∃ c, x = .bl c ∧ Q (.bl (!c)) H1) : tNotV ta σ H Q := h
theorem s_ifE {c : TT} (h : c σ H fun b H1 => if b = true then ta σ H1 Q else tb σ H1 Q) : tIf c ta tb σ H Q := h
theorem s_call {sp : Sp} {dvs : List V} {E : XK} {tt : TA} (h : tt σ H fun vs H1 => sp (vs ++ dvs) H1 Q E) : tCall sp dvs E tt σ H Q := h
theorem s_I0 {g : Int → Int → V} {i j : Int} (h : Q (g i j) H) : rI0 g (.int i) (.int j) H Q := ⟨i, j, rfl, rfl, h⟩
theorem s_I {C : Int → Int → Prop} {g : Int → Int → V} {i j : Int} (c : C i j) (h : Q (g i j) H) : rI C g (.int i) (.int j) H Q := ⟨i, j, rfl, rfl, c, h⟩
theorem s_U {g : Int → V} {i : Int} (h : Q (g i) H) : rU g (.int i) H Q := ⟨i, rfl, h⟩
theorem s_ixL {p : Addr} {xs : List V} {i : Int} (hp : H p = some (.lst xs)) (e : atI xs i = some v) (h : Q v H) : rIxL K (.ref p) (.int i) H Q := ⟨p, xs, i, v, rfl, rfl, .inl (.inl hp), e, h⟩
theorem s_ixT {p : Addr} {xs : List V} {i : Int} (hp : H p = some (.tup xs)) (e : atI xs i = some v) (h : Q v H) : rIxT K (.ref p) (.int i) H Q := ⟨p, xs, i, v, rfl, rfl, .inl (.inl hp), e, h⟩
theorem s_setL {p : Addr} {xs : List V} {i : Int} {j : Nat} {R : Hp → Prop} (hp : H p = some (.lst xs)) (e : ixN xs.length i = some j) (h : R (upd H p (.lst (xs.set j v)))) : rSetL (.ref p) (.int i) v H R := ⟨p, xs, i, j, rfl, rfl, hp, e, h⟩
theorem s_int {R : Int → Prop} {R' : Bool → Prop} {i : Int} (h : R i) : (∃ j, [V.int i] = [V.int j] ∧ R j) ∨ ∃ k, [V.int i] = [V.bl k] ∧ R' k := .inl ⟨i, rfl, h⟩
theorem s_intB {R : Int → Prop} {R' : Bool → Prop} {b : Bool} (h : R' b) : (∃ j, [V.bl b] = [V.int j] ∧ R j) ∨ ∃ k, [V.bl b] = [V.bl k] ∧ R' k := .inr ⟨b, rfl, h⟩
theorem s_abs {R : Int → Prop} {i : Int} (h : R i) : ∃ j, [V.int i] = [V.int j] ∧ R j := ⟨i, rfl, h⟩
theorem s_lenL {R : Nat → Prop} {p : Addr} {xs : List V} (hp : H p = some (.lst xs)) (h : R xs.length) : ∃ x n, [V.ref p] = [x] ∧ LenV K x H n ∧ R n := ⟨_, _, rfl, .inl ⟨xs, .inl (.inl hp), rfl⟩, h⟩
theorem s_lenS {R : Nat → Prop} {z : Str} (hz : z.length ≤ sizeLine) (h : R z.length) : ∃ x n, [V.str z] = [x] ∧ LenV K x H n ∧ R n := ⟨_, _, rfl, ⟨hz, rfl⟩, h⟩
/-- all that is tracked stays -/
theorem ex_new {p : Addr} {o : HO} (h : H p = none) : ∀ b u, H b = some u → upd H p o b = some u := fun b u e => by
  rw [upd_ne (ne_of_none e h)]; exact e
def Ex (H H' : Hp) : Prop := ∀ b o, H b = some o → H' b = some o
theorem Ex.refl (H : Hp) : Ex H H := fun _ _ h => h
theorem Ex.trans {H H1 H2 : Hp} (a : Ex H H1) (b : Ex H1 H2) : Ex H H2 := fun x o h => b x o (a x o h)
theorem Ex.free {H H' : Hp} (e : Ex H H') {p : Addr} (h : H' p = none) : H p = none := by
  cases q : H p with
  | none => rfl
  | some o => rw [e _ _ q] at h; cases h
/-- what is wanted of a new thing (kept from being reduced) -/
def ap (Q : VK) (v : V) (H : Hp) : Prop := Q v H
theorem s_lst {tt : TA} (h : tt σ H fun xs H1 => xs.length ≤ sizeLine ∧ ∀ p, H1 p = none → ap Q (.ref p) (upd H1 p (.lst xs))) : tLst tt σ H Q := h
theorem s_tup {tt : TA} (h : tt σ H fun xs H1 => xs.length ≤ sizeLine ∧ ∀ p, H1 p = none → ap Q (.ref p) (upd H1 p (.tup xs))) : tTup tt σ H Q := h
theorem s_new {o : HO} {n : Nat} (hz : n ≤ sizeLine) (h : ∀ p H2, H p = none → Ex H H2 → H2 p = some o → Q (.ref p) H2) : n ≤ sizeLine ∧ ∀ p, H p = none → ap Q (.ref p) (upd H p o) :=
  ⟨hz, fun p hp => h p _ hp (ex_new hp) upd_same⟩
theorem s_cut {M : L2.St → Hp → Prop} (h : t { D with nx := M } σ H) (k : ∀ σ' H', M σ' H' → u D σ' H') : Evl.tCut t u D σ H := ⟨M, h, k⟩
theorem sz100 {n : Nat} (h : n ≤ 100000) : n ≤ sizeLine := Nat.le_trans h (by decide)
theorem dpInts {H : Hp} : ∀ ns : List Int, DpAll K H (ns.map V.int) (ns.map PyData.int)
  | [] => .nil
  | _ :: r => .cons (.int _) (dpInts r)
theorem s_neD {d e : PyData} (hd : Dp K H x d) (he : Dp K H y e) (sd : SeqAt.shaped d = true) (se : SeqAt.shaped e = true) (h : Q (.bl (!PyData.eqv d e)) H) : rNeD K x y H Q := ⟨d, e, hd, he, sd, se, h⟩
theorem s_eqD {d e : PyData} (hd : Dp K H x d) (he : Dp K H y e) (sd : SeqAt.shaped d = true) (se : SeqAt.shaped e = true) (h : Q (.bl (PyData.eqv d e)) H) : rEqD K x y H Q := ⟨d, e, hd, he, sd, se, h⟩
end
end L3
namespace L3
open PySem PySem.Spec PyProof.Rows L2
def lim : Nat := 1000000
/-- the pen's cells: a list of numbers, hidden too -/
def ScO (c : Addr) (ns : List Int) : HO := .ext fun h => ∃ (its : List Value) (k : Nat), (ns.map V.int).length ≤ sizeLine ∧ Vals (ns.map V.int) its ∧ h.get? c = some { cls := .type "list", data := .seq its.toArray k }
section
variable {X : Cx} {pins : List (Addr × Obj)} {σ : L2.St} {H : Hp} {s : Shared}
theorem Inv.scOpen {c : Addr} {ns : List Int} (I : Inv X pins σ H s) (h : H c = some (ScO c ns)) : Inv X pins σ (upd H c (.lst (ns.map V.int))) s := by
  obtain ⟨⟨its, k, hz, r, e⟩, _, _⟩ := (show ObjOk X.prog X.w H s.heap c (ScO c ns) from I.hok c _ h)
  have mu : Mut (H c) := by rw [h]; exact True.intro
  exact I.write (t' := s.toks) (h' := s.heap) (x := c) (e := c) (o := .lst (ns.map V.int)) mu (.inl rfl) (fun _ _ _ q => q) ⟨_, e⟩ ⟨hz, its, k, r, e⟩
theorem Inv.scClose {c : Addr} {ns : List Int} (I : Inv X pins σ H s) (h : H c = some (.lst (ns.map V.int))) : Inv X pins σ (upd H c (ScO c ns)) s := by
  obtain ⟨hz, its, k, r, e⟩ := (show ObjOk X.prog X.w H s.heap c (.lst _) from I.hok c _ h)
  have mu : Mut (H c) := by rw [h]; exact True.intro
  exact I.write (t' := s.toks) (h' := s.heap) (x := c) (e := c) (o := ScO c ns) mu (.inl rfl) (fun _ _ _ q => q) ⟨_, e⟩
    ⟨⟨its, k, hz, r, e⟩, ⟨_, e⟩, fun _ _ ⟨i, k, z, r, q⟩ f => ⟨i, k, z, r, f _ q⟩⟩
end
def scBack (c : Addr) (ns : List Int) (P : Hp → Prop) (H : Hp) : Prop := H c = some (.lst (ns.map V.int)) ∧ P (upd H c (ScO c ns))
def tSc (c : Addr) (ns : List Int) (t : TS) : TS := fun D σ H => H c = some (ScO c ns) ∧
  t { nx := fun σ' => scBack c ns (D.nx σ'), rt := fun v => scBack c ns (D.rt v), bk := fun σ' => scBack c ns (D.bk σ'), ct := fun σ' => scBack c ns (D.ct σ') } σ (upd H c (.lst (ns.map V.int)))
theorem pss_sc {X : Cx} {sts : List Stmt} {t : TS} (c : Addr) (ns : List Int) (h : PSs X sts t) : PSs X sts (tSc c ns t) := by
  refine ⟨fun pins s σ H D I hw => ?_⟩
  obtain ⟨ha, hw⟩ := hw
  refine thn (h.run pins s σ _ _ (Inv.scOpen I ha) hw) fun f s' q => ?_
  cases f with
  | next =>
    obtain ⟨σ', H', I', e, z⟩ := q
    exact ⟨σ', _, Inv.scClose I' e, z⟩
  | brk =>
    obtain ⟨σ', H', I', e, z⟩ := q
    exact ⟨σ', _, Inv.scClose I' e, z⟩
  | cont =>
    obtain ⟨σ', H', I', e, z⟩ := q
    exact ⟨σ', _, Inv.scClose I' e, z⟩
  | ret u =>
    obtain ⟨v, σ', H', I', r, e, z⟩ := q
    exact ⟨v, σ', _, Inv.scClose I' e, r, z⟩
def Pen (H : Hp) (a : Addr) (n : Nat) : Prop := ∃ c ns, H a = some (PenO a c n) ∧ H c = some (ScO c ns) ∧ ns.length ≤ 63 ∧ c ≠ a
def NoTbl : HO → Prop
  | .tbl _ => False
  | _ => True
/-- all but the pen at a and the tables of code objects stays -/
def Xt (a : Addr) (H H' : Hp) : Prop := ∀ b o, b ≠ a → NoTbl o → H b = some o → H' b = some o
abbrev rInt1 : List V → Hp → VK → Prop := fun xs H Q => (∃ i, xs = [V.int i] ∧ Q (V.int i) H) ∨ ∃ k, xs = [V.bl k] ∧ Q (V.int (if k then 1 else 0)) H
abbrev rLen1 (K : PySem.W.Frag) : List V → Hp → VK → Prop := fun xs H Q => ∃ x n, xs = [x] ∧ LenV K x H n ∧ Q (V.int ((n : Nat) : Int)) H
abbrev rAbs1 : List V → Hp → VK → Prop := fun xs H Q => ∃ i, xs = [V.int i] ∧ Q (V.int (if i < 0 then -i else i)) H
/-- == and != of flat things, or of data -/
def rEqU (K : PySem.W.Frag) : R2 := fun x y H Q => rEq x y H Q ∨ rEqD K x y H Q
def rNeU (K : PySem.W.Frag) : R2 := fun x y H Q => rNe x y H Q ∨ rNeD K x y H Q
theorem dec_eqI (i j : Int) : decide (V.int i = V.int j) = decide (i = j) := by
  by_cases h : i = j
  · subst h; simp
  · rw [decide_eq_false h, decide_eq_false (fun z => h (V.int.inj z))]
theorem dec_eqS (i j : Str) : decide (V.str i = V.str j) = decide (i = j) := by
  by_cases h : i = j
  · subst h; simp
  · rw [decide_eq_false h, decide_eq_false (fun z => h (V.str.inj z))]
section
variable {K : PySem.W.Frag} {H : Hp} {Q : VK} {x y : V}
theorem s_eqI {i j : Int} (h : Q (.bl (decide (i = j))) H) : rEqU K (.int i) (.int j) H Q := .inl ⟨rfl, by rw [dec_eqI]; exact h⟩
theorem s_neI {i j : Int} (h : Q (.bl (!decide (i = j))) H) : rNeU K (.int i) (.int j) H Q := .inl ⟨rfl, by rw [dec_eqI]; exact h⟩
theorem s_eqS {i j : Str} (h : Q (.bl (decide (i = j))) H) : rEqU K (.str i) (.str j) H Q := .inl ⟨rfl, by rw [dec_eqS]; exact h⟩
theorem s_neS {i j : Str} (h : Q (.bl (!decide (i = j))) H) : rNeU K (.str i) (.str j) H Q := .inl ⟨rfl, by rw [dec_eqS]; exact h⟩
theorem s_neD' {d e : PyData} (hd : Dp K H x d) (he : Dp K H y e) (sd : SeqAt.shaped d = true) (se : SeqAt.shaped e = true) (h : Q (.bl (!PyData.eqv d e)) H) : rNeU K x y H Q := .inr ⟨d, e, hd, he, sd, se, h⟩
theorem s_eqD' {d e : PyData} (hd : Dp K H x d) (he : Dp K H y e) (sd : SeqAt.shaped d = true) (se : SeqAt.shaped e = true) (h : Q (.bl (PyData.eqv d e)) H) : rEqU K x y H Q := .inr ⟨d, e, hd, he, sd, se, h⟩
end
end L3
end
section
namespace L3
open PySem PySem.Spec PyProof.Rows L2
/-! ## Defs whose promise holds where no repr is under way (guards = some []) -/
structure FnG (P : Program) (w : World) (K : PySem.W.Frag) (mg : Str → Option Value) (base : Heap) (CX : CXT) (k : Nat) (f : Addr) (fd : FuncData) (ps : List Str) (sp : Sp) : Prop where
  len : ∀ vs H Q E, sp vs H Q E → vs.length = ps.length
  run : ∀ (A : Around) (fr : List Env) (s : Shared) (H : Hp) (as : Args) (us : List Value) (vs : List V) (Q : VK) (E : XK), Room k A → A.guards = some [] → Env0 P w K mg base A fr s H →
    BindsTo s fd as (ps.zip us) → Vals vs us → sp vs H Q E → codeAny (model P w) A (.call (.ref f) as) (CR CX fr P w H s Q E) s
theorem FnG.of {P : Program} {w : World} {K : PySem.W.Frag} {mg : Str → Option Value} {base : Heap} {CX : CXT} {k : Nat} {f : Addr} {fd : FuncData} {ps : List Str} {sp : Sp} (F : FnOk P w K mg base CX k f fd ps sp) : FnG P w K mg base CX k f fd ps sp :=
  ⟨F.len, fun A fr s H as us vs Q E r _ => F.run A fr s H as us vs Q E r⟩
/-- THE RULE for such a def -/
theorem funG {P : Program} {w : World} {K : PySem.W.Frag} {mg : Str → Option Value} {base : Heap} {CX : CXT} {x qual : Str} {st : Stmt} {f : Addr} {fd : FuncData} {N ps : List Str} {k : Nat} {sp : Sp}
    (F : Fun K x qual st f fd) (S : FnScope N ps (defScope st)) (len : ∀ vs H Q E, sp vs H Q E → vs.length = ps.length)
    (body : ∀ (cd : Value) (A : Around) (fr : List Env) (s : Shared) (H : Hp) (vs : List V) (Q : VK) (E : XK), Room k (A.deeper (envOfC qual (defScope st) s.heap.objs.size f cd)) → A.guards = some [] → sp vs H Q E →
      ∃ t, PSs (cxOf CX P w K mg base N qual (defScope st) f cd A fr s H E) (defBody st) t ∧ t { nx := fun _ H' => Q .non H', rt := Q } (L2.start N vs) H) :
    FnG P w K mg base CX (k + 1) f fd ps sp := by
  obtain ⟨oc, od, kV, doc, pm, an, cd, ct, sl, rfl, lk, hcd⟩ := F.ex
  exact ⟨len, fun A fr s H as us vs Q E hr hg e0 hb r h => LamX.run_ofS lk hcd S hr e0 hb r (len _ _ _ _ h) fun hr' => body cd A fr s H vs Q E hr' hg h⟩
/-- a def whose code object is known (it makes lambdas) -/
structure FunC (K : PySem.W.Frag) (x qual : Str) (st : Stmt) (c f : Addr) (fd : FuncData) : Prop where
  ex : ∃ (oc : Value) (od : Option Addr) (kV doc pm : Value) (an : Option Addr) (ct : Value) (osl : Array (Option Value)),
    fd = PySem.W.fnOf x qual (defArgs st) (defBody st) (defScope st) .none kV doc pm an (.ref c) ct ∧ K.lookup f = some ⟨oc, od, .func fd, osl⟩ ∧ PySem.W.codeIn K (.ref c) qual = true
theorem FunC.fun {K : PySem.W.Frag} {x qual : Str} {st : Stmt} {c f : Addr} {fd : FuncData} (F : FunC K x qual st c f fd) (k : PySem.W.keepIn K (.ref f) = true) : Fun K x qual st f fd := by
  obtain ⟨oc, od, kV, doc, pm, an, ct, sl, e, l, h⟩ := F.ex
  exact ⟨⟨oc, od, kV, doc, pm, an, .ref c, ct, sl, e, l, h⟩, k⟩
theorem funGC {P : Program} {w : World} {K : PySem.W.Frag} {mg : Str → Option Value} {base : Heap} {CX : CXT} {x qual : Str} {st : Stmt} {c f : Addr} {fd : FuncData} {N ps : List Str} {k : Nat} {sp : Sp}
    (F : FunC K x qual st c f fd) (S : FnScope N ps (defScope st)) (len : ∀ vs H Q E, sp vs H Q E → vs.length = ps.length)
    (body : ∀ (A : Around) (fr : List Env) (s : Shared) (H : Hp) (vs : List V) (Q : VK) (E : XK), Room k (A.deeper (envOfC qual (defScope st) s.heap.objs.size f (.ref c))) → A.guards = some [] → sp vs H Q E →
      ∃ t, PSs (cxOf CX P w K mg base N qual (defScope st) f (.ref c) A fr s H E) (defBody st) t ∧ t { nx := fun _ H' => Q .non H', rt := Q } (L2.start N vs) H) :
    FnG P w K mg base CX (k + 1) f fd ps sp := by
  obtain ⟨oc, od, kV, doc, pm, an, ct, sl, rfl, lk, hcd⟩ := F.ex
  exact ⟨len, fun A fr s H as us vs Q E hr hg e0 hb r h => LamX.run_ofS lk hcd S hr e0 hb r (len _ _ _ _ h) fun hr' => body A fr s H vs Q E hr' hg h⟩
/-- the same for a def with defaults -/
theorem funDG {P : Program} {w : World} {K : PySem.W.Frag} {mg : Str → Option Value} {base : Heap} {CX : CXT} {x qual : Str} {pa : Arguments} {bd : List Stmt} {sc : Scope} {dvs : List V} {kws : List (Str × V)} {f : Addr} {fd : FuncData} {N ps : List Str} {k : Nat} {sp : Sp}
    (F : FunD K x qual pa bd sc dvs kws f fd) (S : FnScope N ps sc) (len : ∀ vs H Q E, sp vs H Q E → vs.length = ps.length)
    (body : ∀ (cd : Value) (A : Around) (fr : List Env) (s : Shared) (H : Hp) (vs : List V) (Q : VK) (E : XK), Room k (A.deeper (envOfC qual sc s.heap.objs.size f cd)) → A.guards = some [] → sp vs H Q E →
      ∃ t, PSs (cxOf CX P w K mg base N qual sc f cd A fr s H E) bd t ∧ t { nx := fun _ H' => Q .non H', rt := Q } (L2.start N vs) H) :
    FnG P w K mg base CX (k + 1) f fd ps sp := by
  obtain ⟨oc, od, dV, kV, doc, pm, an, cd, ct, sl, rfl, lk, hcd, _⟩ := F.ex
  exact ⟨len, fun A fr s H as us vs Q E hr hg e0 hb r h => LamX.run_ofS lk hcd S hr e0 hb r (len _ _ _ _ h) fun hr' => body cd A fr s H vs Q E hr' hg h⟩
section
variable {X : Cx} {CX : CXT} {k : Nat} {f : Addr} {fd : FuncData} {ps : List Str} {sp : Sp} {E : XK} {x : Str} {p pos : Pos} {e : Expr} {es : List Expr} {t : TA}
theorem runG {pins : List (Addr × Obj)} {σ : L2.St} {H : Hp} {s : Shared} {Q : VK} {us : List Value} {vs : List V} (F : FnG X.prog X.w X.K X.mg X.base CX k f fd ps sp) (hr : Room k X.A) (hg : X.A.guards = some [])
    (hb : Binds X.K fd ps []) (hx : Passes CX X E) (I : Inv X pins σ H s) (r : Vals vs us) (h : sp vs H Q E) : wpAny (model X.prog X.w) X.A (call (.ref f) us) (EP X pins σ Q) X.xe s := by
  have hl : (us ++ []).length = ps.length := by rw [List.append_nil, ← r.length]; exact F.len _ _ _ _ h
  have b := hb s us I.kIn hl
  rw [List.append_nil] at b
  refine wpAny_call (codeAny_mono (F.run X.A X.stack s H ⟨us, []⟩ us vs Q E hr hg I.env0 b r h) fun q s' z => ?_)
  match q, z with
  | .error e, z => exact hx pins σ H s e s' I z
  | .ok (.ret u), z => exact I.after z
/-- a def of the module, called by its name, as one bundle -/
structure Fn (P : Program) (w : World) (K : PySem.W.Frag) (mg : Str → Option Value) (base : Heap) (CX : CXT) (k : Nat) (x : Str) (ps : List Str) (sp : Sp) : Prop where
  ex : ∃ (f : Addr) (fd : FuncData), FnG P w K mg base CX k f fd ps sp ∧ mg x = some (.ref f) ∧ PySem.W.keepIn K (.ref f) = true ∧ Binds K fd ps [] ∧
    ∀ (s : Shared) (ws : List Value), K.In s.heap → ws.length = ps.length → BindsTo s fd ⟨[], ps.zip ws⟩ (ps.zip ws)
theorem pe_f {j : Nat} (c : Fn X.prog X.w X.K X.mg X.base CX k x ps sp) (hr : Room j X.A) (hg : X.A.guards = some []) (hx : Passes CX X E) (ha : PA X (e :: es) t) (hk : k ≤ j := by decide) (gl : Gl X x := by rfl)
    (hdb : (x == ("__debug__" : Str)) = false := by decide) (he : starEach (e :: es) X.env = (false, eval e X.env) :: starEach es X.env := by rfl) (hpl : (backTo pos (starEach es X.env)).any (·.1) = false := by rfl) :
    PE X (.Call (.Name x p) (e :: es) [] pos) (tCall sp [] E t) := by
  obtain ⟨f, fd, F, m, kp, b, _⟩ := c.ex
  constructor
  intro pins s σ H Q I h
  refine wpAny_Call_Name_kw (ld_glob I gl m ?_ hdb)
  refine PySem.W.callWith_K (h₀ := X.base) I.ok.mod.kin kp (thn (ha.run pos pins s σ H _ I h) fun us s1 q => ?_) he hpl
  obtain ⟨vs, H1, I1, r, q⟩ := q
  rw [List.append_nil] at q
  exact ⟨I1.kIn, runG F (hr.mono hk) hg b hx I1 r q⟩
theorem pe_f0 {j : Nat} (c : Fn X.prog X.w X.K X.mg X.base CX k x ps sp) (hr : Room j X.A) (hg : X.A.guards = some []) (hx : Passes CX X E) (hk : k ≤ j := by decide) (gl : Gl X x := by rfl)
    (hdb : (x == ("__debug__" : Str)) = false := by decide) : PE X (.Call (.Name x p) [] [] pos) (tCall sp [] E tNil) := by
  obtain ⟨f, fd, F, m, kp, b, _⟩ := c.ex
  constructor
  intro pins s σ H Q I h
  exact wpAny_Call_Name_kw (ld_glob I gl m (PySem.W.callWith_K0 I.kIn kp (runG (us := []) F (hr.mono hk) hg b hx I .nil h)) hdb)
/-- f(k = e, ..): every parameter by its name, in order -/
theorem pe_fk {j : Nat} {kws : List Keyword} (c : Fn X.prog X.w X.K X.mg X.base CX k x ps sp) (hr : Room j X.A) (hg : X.A.guards = some []) (hx : Passes CX X E) (ha : PK X kws t) (hk : k ≤ j := by decide) (gl : Gl X x := by rfl)
    (hall : (backToKw pos (keywordEach kws X.env)).all (·.1.isSome) = true := by rfl) (hks : (backToKw pos (keywordEach kws X.env)).filterMap (·.1) = ps := by rfl) (hpl : ((backTo pos (starEach [] X.env)).any (·.1) || (backToKw pos (keywordEach kws X.env)).any (·.1.isNone)) = false := by rfl)
    (hdb : (x == ("__debug__" : Str)) = false := by decide) : PE X (.Call (.Name x p) [] kws pos) (tCall sp [] E t) := by
  obtain ⟨f, fd, F, m, kp, _, b⟩ := c.ex
  constructor
  intro pins s σ H Q I h
  refine wpAny_Call_Name_kw (ld_glob I gl m (PySem.W.callWith_KW0 (h₀ := X.base) I.ok.mod.kin kp hall (thn (ha.run pos pins s σ H _ I h) fun us s1 q => ?_) hpl) hdb)
  obtain ⟨vs, H1, I1, r, q⟩ := q
  rw [List.append_nil] at q
  rw [hks]
  refine ⟨I1.kIn, ?_⟩
  have hl : us.length = ps.length := by rw [← r.length]; exact F.len _ _ _ _ q
  refine wpAny_call (codeAny_mono (F.run X.A X.stack s1 H1 ⟨[], ps.zip us⟩ us vs Q E (hr.mono hk) hg I1.env0 (b s1 us I1.kIn hl) r q) fun y s' z => ?_)
  match y, z with
  | .error e, z => exact hx pins σ H1 s1 e s' I1 z
  | .ok (.ret u), z => exact I1.after z
/-- a class of the module, made by its name -/
structure Mc (P : Program) (w : World) (K : PySem.W.Frag) (mg : Str → Option Value) (base : Heap) (CX : CXT) (k : Nat) (x : Str) (C : Addr) (ps : List Str) (sp : Sp) (dvs : List V) : Prop where
  ex : ∃ (f : Addr) (fd : FuncData) (ds : List Value), FnG P w K mg base CX k f fd ps sp ∧ mg x = some (.ref C) ∧ Mk K C f ∧ Binds K fd ps ds ∧ Vals dvs ds
theorem under_make {A : Around} {C : Addr} {us : List Value} {kw : List (Str × Value)} (h : A.guards = some []) : (A.under (.builtin "type.__call__" ⟨.ref C :: us, kw⟩)).guards = some [] := by
  show pushGuards (Code.guards (Code.builtin "type.__call__" { pos := Value.ref C :: us, kw := kw })) A.guards = some []
  rw [h]
  first | rfl | simp [Code.guards, Code.isGuard, guardIds, pushGuards]
theorem pe_mkG {j : Nat} {C : Addr} {dvs : List V} (c : Mc X.prog X.w X.K X.mg X.base CX k x C ps sp dvs) (hr : Room j X.A) (hg : X.A.guards = some []) (hx : Passes CX X E) (ha : PA X (e :: es) t) (hk : k + 1 ≤ j := by decide) (gl : Gl X x := by rfl)
    (hdb : (x == ("__debug__" : Str)) = false := by decide) (he : starEach (e :: es) X.env = (false, eval e X.env) :: starEach es X.env := by rfl) (hpl : (backTo pos (starEach es X.env)).any (·.1) = false := by rfl) :
    PE X (.Call (.Name x p) (e :: es) [] pos) (tMake C sp dvs E t) := by
  obtain ⟨f, fd, ds, F, m, M, b, hd⟩ := c.ex
  constructor
  intro pins s σ H Q I h
  refine wpAny_Call_Name_kw (ld_glob I gl m ?_ hdb)
  refine PySem.W.callWith_K (h₀ := X.base) I.ok.mod.kin M.kp (thn (ha.run pos pins s σ H _ I h) fun us s1 q => ?_) he hpl
  obtain ⟨vs, H1, I1, r, q⟩ := q
  refine ⟨I1.kIn, ?_⟩
  have q1 := q (s1.heap.objs.size + 1) s1.heap.objs.size (I1.hok.fresh (Nat.le_succ _)) (I1.hok.fresh (Nat.le_refl _)) (Nat.ne_of_lt (Nat.lt_succ_self _))
  have I2 := Inv.made (C := C) I1
  have r2 : Vals (V.ref (s1.heap.objs.size + 1) :: (vs ++ dvs)) (Value.ref (s1.heap.objs.size + 1) :: (us ++ ds)) := .cons rfl (r.append hd)
  have hl : (Value.ref (s1.heap.objs.size + 1) :: us ++ ds).length = ps.length := by
    have z := r2.length
    rw [F.len _ _ _ _ q1] at z
    exact z.symm
  have hr' : Room (k + 1) X.A := hr.mono hk
  refine wpAny_call (make_map (f := f) I1.kIn M.makes M.init (beq_iff_eq.mp M.fn) (codeAny_mono (F.run _ X.stack _ _ ⟨Value.ref (s1.heap.objs.size + 1) :: us, []⟩ (Value.ref (s1.heap.objs.size + 1) :: (us ++ ds)) _ _ E
    (hr'.make C us []) (under_make hg) (I2.env0.make C us []) (b _ (Value.ref (s1.heap.objs.size + 1) :: us) I2.kIn hl) r2 q1) fun y s' z => ?_))
  match y, z with
  | .error e, z => exact hx pins σ _ _ e s' I2 z
  | .ok (.ret u), z =>
    obtain ⟨v, H', I3, rv, ev, q3⟩ := I2.after z
    subst ev
    exact ⟨rv, ⟨V.ref (s1.heap.objs.size + 1), H', I3, rfl, q3⟩⟩
end
end L3
namespace L3
open PySem PySem.Spec PyProof.Rows L2 LamX
/-! ## The end: the law is called from outside; its tables of code objects are empty then -/
/-- what is tracked at the law's entry: the script, locked, where it is no object of the module's own; the tables -/
def H0 (K : PySem.W.Frag) (a : Addr) (o : Obj) (xs : List V) (ts : List Addr) : Hp := fun b =>
  if b ∈ ts then some (.tbl #[]) else if b = a ∧ (K.lookup a).isNone = true then some (.frz o (.lst xs)) else none
theorem lawG {P : Program} {w : World} {K : PySem.W.Frag} {mg mb : Str → Option Value} {CX : CXT} {k : Nat} {fa a : Addr} {cs : List (Addr × Addr)} {fd : FuncData} {x : Str} {sp : Sp} {s : Shared} {vs : List Value} {ns : List Int}
    (kin : K.In s.heap) (glo : s.heap.Ns mainGlobals mg) (blt : s.heap.Ns builtinsNs mb) (bls : ∀ y : Str, y ≠ "__name__" → mb y = bootBuiltins y) (lims : s.heap.NoLimit) (gen : s.gens = #[])
    (tabs : ∀ p ∈ cs, s.heap.get? p.2 = some { cls := .none, data := .fields #[] }) (tabK : ∀ p ∈ cs, K.lookup p.2 = none) (codes : ∀ p ∈ cs, PySem.W.CodeHd s.heap p.1 p.2)
    (bmod : ∃ (bm : Addr) (ob : Obj), mg "__builtins__" = some (.ref bm) ∧ bm ≠ builtinsNs ∧ s.heap.get? bm = some ob ∧ ob.cls = .type "module" ∧ ob.dict = some builtinsNs ∧ ob.data = .plain)
    (scr : s.heap.get? a = some { cls := .type "list", data := .seq vs.toArray }) (hInts : IntsAre vs ns) (few : ns.length ≤ sizeLine) (room : Room k callerA)
    (F : ∀ base : Heap, K.In base → base.Ns mainGlobals mg → (∀ p ∈ cs, TabB base mg p.1 p.2) → FnG P w K mg base CX k fa fd [x] sp)
    (bind : ∀ (s : Shared) (u : Value), BindsTo s fd ⟨[u], []⟩ [(x, u)])
    (says : ∀ H : Hp, (∀ p ∈ cs, H p.2 = some (.tbl #[])) → SqL K H a (ns.map V.int) → sp [.ref a] H (fun v _ => v = .bl true) fun _ _ _ => False)
    (none' : ∀ H e s', CX [] H s (fun _ _ _ => False) e s' → False) :
    codeAny (model P w) callerA (.call (.ref fa) ⟨[.ref a], []⟩) (fun r s' => r = .ok (.ret (.bool true)) ∧ OldK s.heap s'.heap ∧ s'.os = s.os ∧ AllBare s'.gens) s := by
  have rv := vals_ints hInts
  have lv := hInts.length
  generalize hts : cs.map (·.2) = ts
  have mem : ∀ p ∈ cs, p.2 ∈ ts := fun p hp => by rw [← hts]; exact List.mem_map.mpr ⟨p, hp, rfl⟩
  have isT : ∀ b ∈ ts, s.heap.get? b = some { cls := .none, data := .fields #[] } ∧ K.lookup b = none := fun b hb => by
    rw [← hts] at hb
    obtain ⟨p, hp, rfl⟩ := List.mem_map.mp hb
    exact ⟨tabs p hp, tabK p hp⟩
  have aT : a ∉ ts := fun z => by
    have q := (isT a z).1
    rw [scr] at q
    exact nomatch congrArg Obj.data (Option.some.inj q)
  generalize hH : H0 K a { cls := .type "list", data := .seq vs.toArray } (ns.map V.int) ts = H
  have atT : ∀ b ∈ ts, H b = some (.tbl #[]) := fun b hb => by rw [← hH]; exact if_pos hb
  have cases_ : ∀ b, H b = none ∨ b ∈ ts ∨ (b = a ∧ K.lookup a = none ∧ H b = some (.frz { cls := .type "list", data := .seq vs.toArray } (.lst (ns.map V.int)))) := fun b => by
    by_cases h1 : b ∈ ts
    · exact .inr (.inl h1)
    · by_cases h2 : b = a ∧ (K.lookup a).isNone = true
      · refine .inr (.inr ⟨h2.1, by simpa using h2.2, ?_⟩)
        rw [← hH]; unfold H0; rw [if_neg h1, if_pos h2]
      · left; rw [← hH]; unfold H0; rw [if_neg h1, if_neg h2]
  have hok : HOk P w H s.heap := fun b o e => by
    rcases cases_ b with q | q | ⟨rfl, _, q⟩
    · rw [q] at e; cases e
    · rw [atT b q] at e; cases e; exact (isT b q).1
    · rw [q] at e; cases e
      exact ⟨scr, by rw [List.length_map]; exact few, vs, _, rv, scr⟩
  have sq : SqL K H a (ns.map V.int) := by
    cases hk : K.lookup a with
    | none => exact .inl (.inr ⟨_, by rw [← hH]; unfold H0; rw [if_neg aT, if_pos ⟨rfl, by rw [hk]; rfl⟩]⟩)
    | some o =>
      have z := kin a o hk
      rw [scr] at z
      cases z
      exact .inr ⟨_, vs.toArray, _, hk, rfl, rfl, rfl, by rw [List.size_toArray, lv]; exact few, by simpa using rv⟩
  -- what isn't tracked lies in the ground
  have gr : ∀ {b : Addr} {o : Obj}, s.heap.get? b = some o → H b = none → (hidT s.heap H).get? b = some o := fun e n => hidT_get e n
  have free : ∀ {b : Addr} {o : Obj}, s.heap.get? b = some o → (∀ us n, o.data ≠ .seq us n) → o.data ≠ .fields #[] → H b = none := fun {b o} e h1 h2 => by
    rcases cases_ b with q | q | ⟨rfl, _, _⟩
    · exact q
    · rw [(isT b q).1] at e; cases e; exact (h2 rfl).elim
    · rw [scr] at e; cases e; exact (h1 _ _ rfl).elim
  have ns' : ∀ {b : Addr} {m : Str → Option Value}, s.heap.Ns b m → (hidT s.heap H).Ns b m := fun {b m} h => by
    obtain ⟨o, es, ep, e, d, r⟩ := h
    exact ⟨o, es, ep, gr e (free e (fun _ _ z => by rw [d] at z; cases z) fun z => by rw [d] at z; cases z), d, r⟩
  have kin' : K.In (hidT s.heap H) := fun b o e => gr (kin b o e) (by
    rcases cases_ b with q | q | ⟨rfl, q, _⟩
    · exact q
    · rw [(isT b q).2] at e; cases e
    · rw [q] at e; cases e)
  have lim' : (hidT s.heap H).NoLimit := by
    obtain ⟨mc, h1, h2⟩ := lims
    exact ⟨mc, ns' h1, h2⟩
  have tb : ∀ p ∈ cs, TabB (hidT s.heap H) mg p.1 p.2 := fun p hp => by
    refine ⟨?_, ?_, fun z => ?_⟩
    · obtain ⟨o, us, file, tf, flags, tg, inF, text, tt, e1, r1, r2, r3, r⟩ := codes p hp
      refine ⟨o, us, file, tf, flags, tg, inF, text, tt, gr e1 (free e1 (fun _ _ z => by rw [r2] at z; cases z) fun z => ?_), r1, r2, r3, r⟩
      rw [r2] at z
      cases z
      simp at r3
    · obtain ⟨bm, ob, b1, b2, b3, b4, b5, b6⟩ := bmod
      refine ⟨bm, ob, b1, b2, fun z => ?_, fun z => ?_, gr b3 (free b3 (fun _ _ z => by rw [b6] at z; cases z) fun z => by rw [b6] at z; cases z), b4, b5, b6⟩
      · obtain ⟨o, es, ep, e, hd, _⟩ := glo
        rw [z, e] at b3; cases b3; rw [hd] at b6; cases b6
      · rw [z, tabs p hp] at b3; cases b3; cases b6
    · obtain ⟨o, es, ep, e, hd, _⟩ := glo
      rw [z, tabs p hp] at e; cases e; cases hd
  have e0 : Env0 P w K mg (hidT s.heap H) callerA [] s H :=
    ⟨rfl, ⟨kin', ns' glo, ⟨mb, ns' blt, bls⟩, lim'⟩, fun b o e => of_hidT e, Nat.le_of_eq (hidT_size _ _), trivial, fun b hb => absurd (show b ∈ ([] : List Addr) from hb) (by simp), hok, .of_eq gen⟩
  refine codeAny_mono ((F _ kin' (ns' glo) tb).run callerA [] s H ⟨[.ref a], []⟩ [.ref a] [.ref a] _ _ room rfl e0 (bind s (.ref a)) (.cons rfl .nil) (says H (fun p hp => atT _ (mem p hp)) sq)) fun r s' h => ?_
  match r, h with
  | .error e, h => exact (none' H e s' h).elim
  | .ok (.ret u), h =>
    obtain ⟨v, H', os, bare, un, hok', r', q⟩ := h
    have q' : v = .bl true := q
    subst q'
    obtain rfl : u = Value.bool true := r'
    have nofr : ∀ b : Addr, b ∉ frs [] := fun b z => absurd (show b ∈ ([] : List Addr) from z) (by simp)
    have kept : ∀ b o, b ∉ ts → s.heap.get? b = some o → s'.heap.get? b = some o := fun b o nb e => by
      rcases cases_ b with q | q | ⟨_, _, q⟩
      · exact un.keep b o e q (nofr b) (by simp)
      · exact absurd q nb
      · have e1 := (hok b _ q).1
        have e2 := (hok' b _ (un.frzs b _ _ q)).1
        rw [e] at e1; cases e1; exact e2
    have tgrow : ∀ p ∈ cs, ∃ more : Array Value, s'.heap.get? p.2 = some { cls := .none, data := .fields more } := fun p hp => by
      obtain ⟨more, z⟩ := un.tbls p.2 #[] (atT _ (mem p hp))
      exact ⟨_, hok' p.2 _ z⟩
    have back : ∀ b ∈ ts, ∃ p ∈ cs, p.2 = b := fun b hb => by
      rw [← hts] at hb
      obtain ⟨p, hp, e⟩ := List.mem_map.mp hb
      exact ⟨p, hp, e⟩
    refine ⟨rfl, ⟨fun b o e => ?_, fun b o e => ?_⟩, os, bare⟩
    · by_cases hb : b ∈ ts
      · obtain ⟨p, hp, rfl⟩ := back b hb
        obtain ⟨more, hm⟩ := tgrow p hp
        rw [tabs p hp] at e
        cases e
        refine .inr (.inl ⟨((codes p hp).tab (tabs p hp)).isCodeTable, rfl, #[], more, rfl, ?_⟩)
        rw [Array.empty_append]
        exact hm
      · exact .inl (kept b o hb e)
    · by_cases hb : b ∈ ts
      · obtain ⟨p, hp, rfl⟩ := back b hb
        obtain ⟨more, hm⟩ := tgrow p hp
        exact ⟨_, hm⟩
      · exact ⟨o, kept b o hb e⟩
/-- what a law's own text must bring -/
structure LawG (l : PySem.W.OpenLaw) (w : World) (K : PySem.W.Frag) (CX : CXT) (k n : Nat) (x : Str) (mg : Str → Option Value) (fa : Addr) (h : Heap) : Prop where
  ex : ∃ (fd : FuncData) (cs : List (Addr × Addr)) (sp : Sp), (∀ p ∈ cs, h.get? p.2 = some { cls := .none, data := .fields #[] }) ∧ (∀ p ∈ cs, K.lookup p.2 = none) ∧ (∀ p ∈ cs, PySem.W.CodeHd h p.1 p.2) ∧
    (∀ (s : Shared) (u : Value), BindsTo s fd ⟨[u], []⟩ [(x, u)]) ∧
    (∀ (H : Hp) (a : Addr) (ns : List Int), ns.length ≤ n → (∀ p ∈ cs, H p.2 = some (.tbl #[])) → SqL K H a (ns.map V.int) → sp [.ref a] H (fun v _ => v = .bl true) fun _ _ _ => False) ∧
    ∀ base : Heap, K.In base → base.Ns mainGlobals mg → (∀ p ∈ cs, TabB base mg p.1 p.2) → FnG l.prog w K mg base CX k fa fd [x] sp
theorem walkG {l : PySem.W.OpenLaw} {n k : Nat} {q : Program} {loose : List Str} {XP : (Str → Option Value) → Heap → Prop} {YP : World → Heap → Prop} {d : DefRec} {K : Params → PySem.W.Frag} {CX : World → CXT} {x : Str}
    (hn : l.most = some n) (hn2 : n ≤ sizeLine) (hdf : d.params.defaults = []) (hr : Room k callerA) (hY : ∀ (w : World) (h : Heap), YP w h → (K w.params).In h)
    (F : ∀ (w : World) (mg : Str → Option Value) (fa : Addr) (h : Heap), YP w h → (K w.params).In h → h.Ns mainGlobals mg → mg d.name = some (.ref fa) → LawG l w (K w.params) (CX w) k n x mg fa h)
    (hCX : ∀ (w : World) (H : Hp) (s : Shared) (e : Value) (s' : Shared), CX w [] H s (fun _ _ _ => False) e s' → False) :
    PySem.W.WalkO q loose XP YP l.row.toRowW d [] (fun f vs => PySem.call f vs) := by
  refine Att.attach_callB hn hdf fun w s₀ s₁ mg mb fa o pm cd doc a vs ns G Y ho hd hcd hmg hobj hints hlen _ hg => ?_
  have kx := hY w _ Y
  obtain ⟨fd, cs, sp, t1, t2, t3, hb, hs, hF⟩ := (F w mg fa _ Y kx G.T.g hmg).ex
  exact lawG kx G.T.g G.T.b G.T.builtins G.T.nolimit hg t1 t2 t3 G.T.bmain hobj hints (Nat.le_trans hlen hn2) hr hF hb (fun H hH hS => hs H a ns hlen hH hS) fun H e s' => hCX w H s₁ e s'
end L3
end
section
namespace L3
open PySem PySem.Spec PyProof.Rows L2
section
variable {X : Cx}
/-! ## repr of data -/
mutual
theorem dp_noDict {K : PySem.W.Frag} {H : Hp} : ∀ (d : PyData) (v : V), Dp K H v d → d.hasDict = false
  | .none, _, _ => rfl
  | .bool _, _, _ => rfl
  | .int _, _, _ => rfl
  | .str _, _, _ => rfl
  | .list ds, _, h => by
    cases h with
    | lst _ a => exact dp_noDictAll ds _ a
  | .tuple ds, _, h => by
    cases h with
    | tup _ a => exact dp_noDictAll ds _ a
  | .dict _, _, h => nomatch h
theorem dp_noDictAll {K : PySem.W.Frag} {H : Hp} : ∀ (ds : List PyData) (vs : List V), DpAll K H vs ds → PyData.hasDictAll ds = false
  | [], _, _ => rfl
  | d :: ds, _, h => by
    cases h with
    | cons a b =>
      unfold PyData.hasDictAll
      rw [dp_noDict d _ a, dp_noDictAll ds _ b]
      rfl
end
def rRepr (K : PySem.W.Frag) : List V → Hp → VK → Prop := fun xs H Q => ∃ x d, xs = [x] ∧ Dp K H x d ∧ d.showable = true ∧ d.depth ≤ 60 ∧ d.shown.length ≤ sizeLine ∧ Q (.str d.shown) H
theorem call_reprD (hg : X.A.guards = some []) (hu : X.A.units + 64 < cLine) : CallR X (.builtin "repr") (rRepr X.K) := by
  intro pins s σ H xs us Q I r h
  obtain ⟨x, d, rfl, hd, hs, hdp, hz, q⟩ := h
  obtain ⟨u, rfl, rx⟩ := vals1 r
  have nd := dp_noDict d x hd
  obtain ⟨as, rd⟩ := Dp.reads I d x u hd rx
  have fin : ∀ tk t, EP X pins σ Q (.str d.shown t) { s with toks := tk } := fun tk t => ⟨.str d.shown, H, I.tok tk, ⟨t, rfl⟩, q⟩
  cases hd with
  | non =>
    cases (show u = Value.none from rx)
    exact P.repr_of_none (fin _ _)
  | bl b =>
    cases (show u = Value.bool b from rx)
    refine P.repr_of_bool ?_
    cases b
    · exact fin _ _
    · exact fin _ _
  | int i =>
    obtain ⟨t, e⟩ := (show ∃ t, u = Value.int i t from rx)
    subst e
    exact P.repr_of_int (of_decide_eq_true hs) (fin _ _)
  | str z =>
    obtain ⟨t, e⟩ := (show ∃ t, u = Value.str z t from rx)
    subst e
    exact P.repr_of_str (fin _ _) hz
  | lst a b =>
    cases (show u = Value.ref _ from rx)
    refine repr_of_reads' rd hs (PyData.noDict_hsm nd) hg (by omega) (fun _ _ e => e) (fun h' t tk k => ?_) hz
    exact ⟨.str _, H, I.kept k, ⟨t, rfl⟩, q⟩
  | tup a b =>
    cases (show u = Value.ref _ from rx)
    refine repr_of_reads' rd hs (PyData.noDict_hsm nd) hg (by omega) (fun _ _ e => e) (fun h' t tk k => ?_) hz
    exact ⟨.str _, H, I.kept k, ⟨t, rfl⟩, q⟩
/-! ## a text many times -/
def repS (z : Str) (n : Nat) : Str := ⟨(List.replicate n z.cps).foldl (· ++ ·) #[]⟩
def rMulS : R2 := fun x y H Q => ∃ z n, x = .str z ∧ y = .int n ∧ 2 ≤ n ∧ n ≤ 100000 ∧ z.length = 1 ∧ Q (.str (repS z n.toNat)) H
theorem repS_len (z : Str) (n : Nat) : (repS z n).length = n * z.length := by
  have h : ∀ (l : List (Array Nat)) (a : Array Nat), (l.foldl (· ++ ·) a).size = a.size + (l.map (·.size)).sum := by
    intro l
    induction l with
    | nil => intro a; simp
    | cons b r ih => intro a; rw [List.foldl_cons, ih, Array.size_append, List.map_cons, List.sum_cons]; omega
  show ((List.replicate n z.cps).foldl (· ++ ·) #[]).size = _
  rw [h, List.map_replicate, List.sum_replicate_nat]
  simp [Str.length]
theorem op_mulS : OpR X (binaryOp .Mult) rMulS := by
  intro pins s σ H x y v u Q I rx ry h
  obtain ⟨z, n, rfl, rfl, h1, h2, h3, q⟩ := h
  obtain ⟨t, rfl⟩ := rx
  obtain ⟨t', rfl⟩ := ry
  have c1 : ¬ n < 1 := by omega
  have c2 : (n == 1 || z.length == 0) = false := by
    rw [h3, show (n == 1) = false from beq_eq_false_iff_ne.mpr (by omega)]
    rfl
  refine P.mul_str (by rw [decide_eq_false (by omega), decide_eq_false (by omega)]; rfl) (fun _ _ => ?_) (fun _ _ => ?_) ?_
  · rw [h3]
    have : (1 : Int) ≤ (2 ^ 63 - 1) / n := Int.le_ediv_of_mul_le (by omega) (by omega)
    omega
  · unfold PySem.Builtin.Str.tooLong
    rw [h3]
    exact decide_eq_false (by rw [sizeLine_eq]; omega)
  · rw [if_neg c1, c2, if_neg (by decide)]
    refine ⟨?_, ⟨.str (repS z n.toNat), H, I.tok _, ⟨_, rfl⟩, q⟩⟩
    show (repS z n.toNat).length ≤ sizeLine
    rw [repS_len, h3, sizeLine_eq]
    omega
/-! ## list(text) -/
theorem vals_of_get : ∀ {xs : List V} {us : List Value}, xs.length = us.length → (∀ (i : Nat) x u, xs[i]? = some x → us[i]? = some u → RelV x u) → Vals xs us
  | [], [], _, _ => .nil
  | x :: xs, u :: us, hl, h => .cons (h 0 x u rfl rfl) (vals_of_get (by simpa using hl) fun i y v a b => h (i + 1) y v (by simpa using a) (by simpa using b))
  | [], _ :: _, hl, _ => by simp at hl
  | _ :: _, [], hl, _ => by simp at hl
def chars (z : Str) : List V := z.cps.toList.map fun c => V.str ⟨#[c]⟩
def rListS : List V → Hp → VK → Prop := fun xs H Q => ∃ z, xs = [.str z] ∧ z.length ≤ sizeLine ∧ ∀ l, H l = none → ap Q (.ref l) (upd H l (.lst (chars z)))
theorem call_listS (hc : X.calm = true) : CallR X (.type "list") rListS := by
  intro pins s σ H xs us Q I r h
  obtain ⟨z, rfl, hz, q⟩ := h
  obtain ⟨u, rfl, rx⟩ := vals1 r
  obtain ⟨t, rfl⟩ := rx
  refine call_list_str (I.ok.hd hc) z t (fun h' tk acc c k e it => ?_) hz
  have rl : Vals (chars z) acc.toList := by
    refine vals_of_get ?_ fun i x u hx hu => ?_
    · unfold chars
      rw [List.length_map, Array.length_toList, Array.length_toList, it.1]
    · obtain ⟨c, t, e1, rfl⟩ := it.2 i u (by simpa using hu)
      have e2 : z.cps.toList[i]? = some c := by simpa using e1
      unfold chars at hx
      rw [List.getElem?_map, e2] at hx
      cases hx
      exact ⟨t, rfl⟩
  refine ⟨.ref s.heap.objs.size, _, I.laid (t' := tk) k (Nat.le_refl _) (o := .lst (chars z)) ⟨by unfold chars; rw [List.length_map]; exact hz, acc.toList, c, rl, by simpa using e⟩, rfl, q _ (I.hok.fresh (Nat.le_refl _))⟩
end
end L3
namespace L3
open PySem PySem.Calls PySem.NumText PyProof.Rows PySem.W PySem.W.KIN
/-! ## int of a text of more than 640 signs: the limit of figures is asked for -/
def DigitsFree (h : Heap) : Prop := ∃ mc, h.Ns cStatics mc ∧ mc "sys.int_max_str_digits" = none
theorem wp_digits {M : Model} {A : Around} {E : Value → Shared → Prop} {s : Shared} {Q : Nat → Shared → Prop} (hm : DigitsFree s.heap) (h : Q 4300 s) : wpAny M A PySem.Builtin.intMaxStrDigits Q E s := by
  obtain ⟨mc, h1, h2⟩ := hm
  unfold PySem.Builtin.intMaxStrDigits
  refine wpAny_bind (wpAny_nsGet h1 ?_)
  rw [h2]
  exact wpAny_pure h
theorem wp_textL {M : Model} {A : Around} {E : Value → Shared → Prop} {s : Shared} {Q : Value → Shared → Prop} {v : Value} {text : List Nat} {n : Int} (hm : DigitsFree s.heap)
    (hs : ¬ (text.takeWhile (· != 0)).length ≤ 640) (hr : (int_private% "readNumeral") 4300 10 (text.takeWhile (· != 0)) = (int_private% "Numeral.value") n)
    (ha : ((text.takeWhile (· != 0)).length == text.length) = true) (h : Q (.int n s.toks) { s with toks := s.toks + 1 }) :
    wpAny M A ((int_private% "intFromText") v text 10) Q E s := by
  obtain ⟨hp, g, d, tk, os⟩ := s
  repeat (any_goals (first
    | assumption
    | (with_reducible refine wpAny_ite_false (decide_eq_false hs) ?_)
    | (with_reducible refine wpAny_ite_true (decide_eq_true ha) ?_)
    | (with_reducible refine wp_digits hm ?_)
    | wp_step))
  all_goals (try rw [hr])
  all_goals (try dsimp only)
  repeat (any_goals (first
    | assumption
    | (with_reducible refine wpAny_ite_true (decide_eq_true ha) ?_)
    | wp_step))
structure HidL (p : Prop) : Prop where
  out : p
theorem meets_textL {x : PySem.Str} {u : Tok} {n : Int} (hl : ¬ (numSeenOf x).length ≤ 640) (hr : (int_private% "readNumeral") 4300 10 (numSeenOf x) = (int_private% "Numeral.value") n)
    (ha : ((numSeenOf x).length == (numTextOf x).length) = true) : Meets (Builtin.«int.__new__» ⟨[.type "int", .str x u], []⟩) (fun _ R s => DigitsFree s.heap ∧ R (.ok (.ret (.int n s.toks))) { s with toks := s.toks + 1 }) := by
  intro prog w A R s h
  obtain ⟨hm, h⟩ := h
  obtain ⟨hp, g, d, tk, os⟩ := s
  have g1 := F.conv_sub_int
  have g2 := F.madeHere_int
  have g3 := str_int
  have g4 := str_idx
  have g5 := str_trunc
  have g6 : typeOf (.str x u) = pure (.type "str") := rfl
  have hk := HidL.mk (And.intro hl (And.intro hr ha))
  clear hl hr ha
  repeat (any_goals (first
    | assumption
    | ((with_reducible show wpAny _ _ ((int_private% "intFromText") _ _ _) _ _ _); refine wp_textL hm hk.out.1 hk.out.2.1 hk.out.2.2 ?_)
    | wp_step))
theorem call_textL {prog : Program} {w : World} {A : Around} {E : Value → Shared → Prop} {s : Shared} {Q : Value → Shared → Prop} {x : PySem.Str} {u : Tok} {n : Int} (hm : DigitsFree s.heap) (hl : ¬ (numSeenOf x).length ≤ 640) (hr : (int_private% "readNumeral") 4300 10 (numSeenOf x) = (int_private% "Numeral.value") n)
    (ha : ((numSeenOf x).length == (numTextOf x).length) = true) (h : Q (.int n s.toks) { s with toks := s.toks + 1 }) :
    wpAny (model prog w) A (call (.type "int") [.str x u]) Q E s := call_int_1 (meets_textL hl hr ha) ⟨hm, rfl, h⟩
end L3
namespace L3
open PySem PySem.Spec PyProof.Rows L2
/-! ## functions as values: what isinstance tells of them -/
namespace FnK
theorem slot : Slot "function" "__getattribute__" "object.__getattribute__" := .of (owner := "object") (n := "__getattribute__")
  (by rw [typeLookup_type, builtinLookup_eq_fast]; kernel_rfl) (by decide +kernel) (by decide +kernel) (by decide +kernel) (by first | exact .inl (by decide +kernel) | exact .inr (by decide +kernel)) (by rw [isSubtype_type]; kernel_rfl)
theorem look : typeLookup (.type "function") "__class__" = pure (some (.builtin "object.__class__")) := by
  rw [typeLookup_type, builtinLookup_eq_fast]; kernel_rfl
theorem below : isSubtype (.type "function") (.type (".".intercalate ("object.__class__".cutAt '.').dropLast)) = pure true := by
  rw [F.owner_object_class, isSubtype_type]; kernel_rfl
section
variable {prog : Program} {w : World} {A : Around} {E : Value → Shared → Prop} {hp : Heap} {gs : Array GenState} {dr : Drawn} {tk : Nat} {os : OsState} {f : Addr} {ob : Obj}
theorem got {R : Result → Shared → Prop} (e : hp.get? f = some ob) (c : ob.cls = .type "function") (k : R (.ok (.ret (.type "function"))) ⟨hp, gs, dr, tk, os⟩) :
    codeAny (model prog w) A (.call (.builtin "getset_descriptor.__get__") ⟨[.builtin "object.__class__", .ref f, .type "function"], []⟩) R ⟨hp, gs, dr, tk, os⟩ := by
  have y1 : (⟨hp, gs, dr, tk, os⟩ : Shared).TypeIs (.ref f) "function" := ⟨_, e, c⟩
  have y2 : (⟨hp, gs, dr, tk, os⟩ : Shared).TypeIs (.builtin "object.__class__") "getset_descriptor" := F.typeOf_object_class
  have y3 := below
  refine codeAny_call_builtin F.slot_gs_get.plain F.entry_gs_get (F.slot_gs_get.check _ _ _ _ _ _ _ _ y2 (F.args_gs_get _ _ _) ?_)
  repeat (any_goals (first | assumption | wp_step))
  refine ⟨Code.quiet_builtin _ (by decide +kernel), codeAny_builtin F.entry_object_class ?_⟩
  repeat (any_goals (first | assumption | wp_step))
theorem entry {t : Tok} {Q : Fin → Shared → Prop} (e : hp.get? f = some ob) (c : ob.cls = .type "function") (k : Q (.done (.ret (.type "function"))) ⟨hp, gs, dr, tk, os⟩) :
    wpAny (model prog w) A (Builtin.«object.__getattribute__» ⟨[.ref f, .str "__class__" t], []⟩) Q E ⟨hp, gs, dr, tk, os⟩ := by
  have y1 : (⟨hp, gs, dr, tk, os⟩ : Shared).TypeIs (.ref f) "function" := ⟨_, e, c⟩
  have y2 : (⟨hp, gs, dr, tk, os⟩ : Shared).TypeIs (.builtin "object.__class__") "getset_descriptor" := F.typeOf_object_class
  have y3 := look
  have y4 := F.typeOf_object_class
  have y5 := F.slot_gs_get.lookup
  have y6 := F.slot_gs_set.lookup
  repeat (any_goals (first | assumption | wp_step))
  refine got e c ?_
  repeat (any_goals (first | assumption | wp_step))
theorem by_ {t : Tok} {Q : Value → Shared → Prop} (e : hp.get? f = some ob) (c : ob.cls = .type "function") (k : Q (.type "function") ⟨hp, gs, dr, tk, os⟩) :
    wpAny (model prog w) A (getAttrBy (.ref f) (.str "__class__" t) false) Q E ⟨hp, gs, dr, tk, os⟩ := by
  have y1 : (⟨hp, gs, dr, tk, os⟩ : Shared).TypeIs (.ref f) "function" := ⟨_, e, c⟩
  have y2 := slot.lookup
  have y3 := slot.bind (.ref f)
  repeat (any_goals (first | assumption | wp_step))
  refine codeAny_call_builtin slot.plain F.entry_object_getattribute (slot.check _ _ _ _ _ _ _ _ y1 (F.args_object_getattribute_2 _ _) (entry e c ?_))
  repeat (any_goals (first | assumption | wp_step))
theorem attr {Q : Option Value → Shared → Prop} (e : hp.get? f = some ob) (c : ob.cls = .type "function") (k : Q (some (.type "function")) ⟨hp, gs, dr, tk + 1, os⟩) :
    wpAny (model prog w) A (getAttr? (.ref f) "__class__") Q E ⟨hp, gs, dr, tk, os⟩ := by
  unfold getAttr? getAttrBy?
  repeat (any_goals (first | assumption | with_reducible apply by_ e c | wp_step))
end
theorem kit {K : PySem.W.Frag} {f : Addr} : PySem.W.KitX K (.ref f) (.type "function") (PySem.W.KitAt f "function") :=
  PySem.W.kitx_of PySem.W.kitAt_ty (fun {_ _ _ _ _ s} p k => by
    obtain ⟨hp, gs, dr, tk, os⟩ := s
    obtain ⟨o, h1, h2⟩ := p
    exact attr h1 h2 k)
end FnK
/-- a function object -/
def FnV (f : Addr) : HO := .ext fun h => ∃ o, h.get? f = some o ∧ o.cls = .type "function"
/-- a value's type -/
inductive TyA (K : PySem.W.Frag) (H : Hp) : V → Value → Prop where
  | x {v : V} {t : Value} (h : TyX K H v t) : TyA K H v t
  | fn {f : Addr} (e : H f = some (FnV f)) : TyA K H (.ref f) (.type "function")
def rIsiA (K : PySem.W.Frag) : List V → Hp → VK → Prop := fun xs H Q => ∃ (x c : V) (t u : Value) (b : Bool), xs = [x, c] ∧ ClsV c u ∧ TyA K H x t ∧ PySem.W.kitOne K t u = some b ∧ Q (.bl b) H
theorem callIsi {X : Cx} : CallR X (.builtin "isinstance") (rIsiA X.K) := by
  intro pins s σ H xs us Q I r h
  obtain ⟨x, c, t, u, b, rfl, k, ty, e, q⟩ := h
  cases ty with
  | x ty => exact call_isi pins s σ H _ us Q I r ⟨x, c, t, u, b, rfl, k, ty, e, q⟩
  | @fn f ef =>
    obtain ⟨u1, u2, rfl, r1, r2⟩ := vals2 r
    have e2 := k.eq r2
    subst e2
    cases (show u1 = Value.ref f from r1)
    obtain ⟨⟨o, h1, h2⟩, _, _⟩ := (show ObjOk X.prog X.w H s.heap f (FnV f) from I.hok f _ ef)
    exact PySem.W.kia_one (FnK.kit (K := X.K) (f := f)) I.kIn ⟨o, h1, h2⟩ e (fun z => nomatch z) fun tk => ⟨.bl b, H, I.tok tk, rfl, q⟩
end L3
namespace L3
open PySem PySem.Spec PyProof.Rows L2 LamX
/-! ## a lambda as a value -/
def tLamV (T : List (Addr × Str)) : TE := fun _ H Q => Tabs T H ∧ ∀ f H1, H f = none → ExtN H H1 → Tabs T H1 → H1 f = some (FnV f) → ap Q (.ref f) H1
theorem FnV_ok {P : Program} {w : World} {H : Hp} {h : Heap} {f : Addr} {o : Obj} (e : h.get? f = some o) (c : o.cls = .type "function") : ObjOk P w H h f (FnV f) :=
  ⟨⟨o, e, c⟩, ⟨o, e⟩, fun _ _ ⟨o, a, b⟩ k => ⟨o, k _ a, b⟩⟩
theorem Tabs.up {T : List (Addr × Str)} {H : Hp} {p : Addr} {o : HO} (t : Tabs T H) (h : H p = none) : Tabs T (upd H p o) := t.ext (ex_new h)
theorem pe_lamV {X : Cx} {T : List (Addr × Str)} {c P : Addr} {params : Arguments} {body : Expr} {scope : Scope} {pos : Pos} (TB : TabB X.base X.mg c P) (hcode : X.env.code = .ref c) (hm : (P, X.env.qual ++ "<lambda>") ∈ T)
    (hu : ∀ p ∈ T, p.1 = P → p.2 = X.env.qual ++ "<lambda>") (hdef : defaultsOf params X.env = ([], [])) (hfree : ∀ y ∈ scope.names, y.2 ≠ .free) : PE X (.Lambda params body scope pos) (tLamV T) := by
  constructor
  intro pins s σ H Q I h
  obtain ⟨hT, k⟩ := h
  obtain ⟨ps, hP, ht, ha⟩ := hT _ hm
  have hfr : ∀ y ∈ scope.names, y.2 = .free → ∃ c, X.env.cells.lookup y.1 = some c := fun y hy e => absurd e (hfree y hy)
  refine PySem.W.kla_eval hdef ?_
  have bP : s.heap.BuiltinsAt X.mg P := TB.bm.keeps I.bk
  have hP' : s.heap.get? P = some { cls := .none, data := .fields ps } := I.hok P _ hP
  cases hc : codeAmong pos ps.toList with
  | none =>
    refine PySem.W.kla_makeFunction (mg := X.mg) (c := c) (P := P) (ps := ps) (closure_ok hfr) I.ok.glob (I.mod.glob.keeps I.bk) hcode (TB.code.keeps I.bk) hP' ht hc TB.gP bP fun c' ctv h' tk hx hge hlt hrec htb => ?_
    obtain ⟨c2, oc, vs, t, e2, hoc, hd, hv⟩ := hrec
    cases e2
    have hsz : s.heap.objs.size ≤ h'.objs.size := Nat.le_trans hge (Nat.le_of_lt hlt)
    have nC : H c' = none := I.hok.fresh hge
    have I1 : Inv X pins σ _ { s with heap := h', toks := tk } := inv_table (t' := tk) (more := #[rawInt pos.line, rawInt pos.col, .ref c']) I hP hx htb hge ⟨oc, vs, t, hoc, hd, hv⟩
    generalize hH1 : upd (upd H P (.tbl (ps ++ #[rawInt pos.line, rawInt pos.col, .ref c']))) c' (CodeO c' (X.env.qual ++ "<lambda>")) = H1 at I1
    have nPc : P ≠ c' := ne_of_none hP nC
    have eN : ExtN H H1 := fun b o e n => by
      rw [← hH1, upd_ne (ne_of_none e nC), upd_ne (fun z => n ps (Option.some.inj (e.symm.trans (by rw [z]; exact hP))))]
      exact e
    have T1 : Tabs T H1 := fun p hp => by
      by_cases hb : p.1 = P
      · rw [hu p hp hb, hb]
        refine ⟨ps ++ #[rawInt pos.line, rawInt pos.col, .ref c'], by rw [← hH1, upd_ne nPc, upd_same], by simp only [Array.toList_append]; exact PySem.TriplesOk_snoc _ _ _ _ ht, fun p' v hv => ?_⟩
        simp only [Array.toList_append] at hv
        rcases among_app _ ht hv with z | z
        · obtain ⟨c0, e1, e2⟩ := ha p' v z
          exact ⟨c0, e1, eN _ _ e2 codeO_ne⟩
        · exact ⟨c', z, by rw [← hH1]; exact upd_same⟩
      · obtain ⟨qs, a1, a2, a3⟩ := hT p hp
        refine ⟨qs, by rw [← hH1, upd_ne (ne_of_none a1 nC), upd_ne hb]; exact a1, a2, fun p' v hv => ?_⟩
        obtain ⟨c0, e1, e2⟩ := a3 p' v hv
        exact ⟨c0, e1, eN _ _ e2 codeO_ne⟩
    have nf : H1 h'.objs.size = none := I1.hok.fresh (Nat.le_refl _)
    have I2 := I1.laid (t' := tk) (h' := h'.push (PySem.W.kla_obj "<lambda>" (X.env.qual ++ "<lambda>") params body scope (cloFrom X.env.cells scope.names []) ((X.mg "__name__").getD .none) c' ctv)) (a := h'.objs.size) (o := FnV h'.objs.size)
      (fun b o e => Heap.get?_push_of_some _ e) (Nat.le_refl _) (FnV_ok (Heap.get?_push_size _ rfl) rfl)
    exact ⟨.ref h'.objs.size, _, I2, rfl, k _ _ (I.hok.fresh hsz) (eN.trans (.of (ex_new nf))) (Tabs.up T1 nf) upd_same⟩
  | some cv =>
    obtain ⟨c', e, hco⟩ := ha pos cv hc
    subst e
    refine PySem.W.kla_makeFunctionHit (mg := X.mg) (c := c) (P := P) (ps := ps) (closure_ok hfr) I.ok.glob (I.mod.glob.keeps I.bk) hcode (TB.code.keeps I.bk) hP' ht hc bP fun ctv h' tk hx hsz => ?_
    have I1 : Inv X pins σ H { s with heap := h', toks := tk } := I.kept hx
    have nf : H h'.objs.size = none := I.hok.fresh hsz
    have I2 := I1.laid (t' := tk) (h' := h'.push (PySem.W.kla_obj "<lambda>" (X.env.qual ++ "<lambda>") params body scope (cloFrom X.env.cells scope.names []) ((X.mg "__name__").getD .none) c' ctv)) (a := h'.objs.size) (o := FnV h'.objs.size)
      (fun b o e => Heap.get?_push_of_some _ e) (Nat.le_refl _) (FnV_ok (Heap.get?_push_size _ rfl) rfl)
    exact ⟨.ref h'.objs.size, _, I2, rfl, k _ _ nf (.of (ex_new nf)) (Tabs.up hT nf) upd_same⟩
/-! ## rules for operands of several kinds -/
section
variable {X : Cx}
def rAddU : R2 := fun x y H Q => rI0 (fun i j => V.int (i + j)) x y H Q ∨ (∃ i j, x = .str i ∧ y = .str j ∧ i.length + j.length ≤ sizeLine ∧ Q (.str (i ++ j)) H) ∨ rCat x y H Q
theorem opAdd : OpR X (binaryOp .Add) rAddU := OpR.or op_add (OpR.or op_add_str op_cat)
def rMulU : R2 := fun x y H Q => rI IntMulOk (fun i j => V.int (i * j)) x y H Q ∨ rMulS x y H Q ∨ rRep x y H Q
theorem opMul : OpR X (binaryOp .Mult) rMulU := OpR.or (opI fun _ _ _ _ _ _ _ hc q => mul_int q hc) (OpR.or op_mulS op_rep)
theorem opEq (hu : X.A.units + 64 < cLine) : OpR X (compareOp .Eq) (rEqU X.K) := OpR.or op_eq (op_eqD hu)
theorem opNe (hu : X.A.units + 64 < cLine) : OpR X (compareOp .NotEq) (rNeU X.K) := OpR.or op_ne (op_neD hu)
def rIsU : R2 := fun x y H Q => (y = .non ∧ Q (.bl (decide (x = .non))) H) ∨ rIsB x y H Q
theorem opIs : OpR X (compareOp .Is) rIsU := OpR.or op_isN op_isBl
def rIsNotU : R2 := fun x y H Q => (y = .non ∧ Q (.bl (!decide (x = .non))) H) ∨ rNotB x y H Q
theorem opIsNot : OpR X (compareOp .IsNot) rIsNotU := OpR.or op_notN op_notBl
def rInU (K : PySem.W.Frag) : R2 := fun x y H Q => rInS x y H Q ∨ rIn K false x y H Q
theorem opIn : OpR X (compareOp .In) (rInU X.K) := OpR.or op_inS op_in_seq
def rNotInU (K : PySem.W.Frag) : R2 := fun x y H Q => rNotInS x y H Q ∨ rIn K true x y H Q
theorem opNotIn : OpR X (compareOp .NotIn) (rNotInU X.K) := OpR.or op_notInS op_notIn_seq
theorem IxR.or {r r' : R2} (h : IxR X r) (h' : IxR X r') : IxR X (fun x y H Q => r x y H Q ∨ r' x y H Q) := by
  intro value slice pins s σ H x y v u Q I rx ry q hs
  rcases q with q | q
  · exact h value slice pins s σ H x y v u Q I rx ry q hs
  · exact h' value slice pins s σ H x y v u Q I rx ry q hs
def rIxU (K : PySem.W.Frag) : R2 := fun x y H Q => rIxL K x y H Q ∨ rIxT K x y H Q ∨ rIxS x y H Q
theorem ixU : IxR X (rIxU X.K) := IxR.or ix_list (IxR.or ix_tup ix_str)
def rSlU (K : PySem.W.Frag) : V → Option Int → Option Int → Hp → VK → Prop := fun x lo hi H Q => rSlL K x lo hi H Q ∨ rSlS x lo hi H Q
theorem slU : SlR X (rSlU X.K) := SlR.or sl_list sl_str
theorem CallR.or {f : Value} {r r' : List V → Hp → VK → Prop} (h : CallR X f r) (h' : CallR X f r') : CallR X f (fun xs H Q => r xs H Q ∨ r' xs H Q) := by
  intro pins s σ H xs us Q I rs q
  rcases q with q | q
  · exact h pins s σ H xs us Q I rs q
  · exact h' pins s σ H xs us Q I rs q
/-- int(x): an int, a bool, a text -/
def rIntT : List V → Hp → VK → Prop := fun xs H Q => ∃ a n, xs = [.str a] ∧ PySem.intText? a = some n ∧ a.length ≤ 640 ∧ Q (.int n) H
def rIntL (K : PySem.W.Frag) : List V → Hp → VK → Prop := fun xs H Q => ∃ a n, xs = [.str a] ∧ PySem.intText? a = some n ∧ PySem.W.nsIn K cStatics "sys.int_max_str_digits" = some none ∧ ¬ (numSeenOf a).length ≤ 640 ∧ a.length ≤ sizeLine ∧ Q (.int n) H
theorem ns_none {K : PySem.W.Frag} {h : Heap} {a : Addr} {m : Str → Option Value} {x : Str} (kin : K.In h) (g : h.Ns a m) (e : PySem.W.nsIn K a x = some none) : m x = none := by
  obtain ⟨o, es, ep, ho, hd, _, hf⟩ := g
  cases hk : K.lookup a with
  | none => unfold PySem.W.nsIn at e; rw [hk] at e; cases e
  | some o' =>
    have z := kin _ _ hk
    rw [ho] at z
    cases z
    obtain ⟨c, d, dt, sl⟩ := o
    cases hd
    unfold PySem.W.nsIn at e
    rw [hk] at e
    cases he : es.toList.find? (·.key.isStr x) with
    | some y =>
      exfalso
      revert e
      show (match es.toList.find? (·.key.isStr x) with | some e => some (some e.val) | none => if es.toList.any (·.refKey) then none else some none) = some none → False
      rw [he]
      intro e; cases e
    | none =>
      rw [← hf]
      unfold nsFind findBy
      rw [← Array.find?_toList, he]
      rfl
theorem digits_free {K : PySem.W.Frag} {h : Heap} (kin : K.In h) (hl : h.NoLimit) (e : PySem.W.nsIn K cStatics "sys.int_max_str_digits" = some none) : DigitsFree h := by
  obtain ⟨mc, hn, _⟩ := hl
  refine ⟨mc, hn, ?_⟩
  exact ns_none kin hn e
def rIntU (K : PySem.W.Frag) : List V → Hp → VK → Prop := fun xs H Q => rInt1 xs H Q ∨ rIntT xs H Q ∨ rIntL K xs H Q
theorem callIntL : CallR X (.type "int") (rIntL X.K) := by
  intro pins s σ H xs us Q I rs h
  obtain ⟨a, n, rfl, hn, hk, hl, hz, q⟩ := h
  obtain ⟨u, rfl, rx⟩ := vals1 rs
  obtain ⟨t, rfl⟩ := rx
  rcases read4300 a hz with ⟨m, e1, e2, e3⟩ | ⟨e1, _⟩
  · rw [hn] at e1
    cases e1
    exact call_textL (digits_free I.kIn I.nolimit hk) hl e3 e2 ⟨.int n, H, I.tok _, ⟨_, rfl⟩, q⟩
  · rw [hn] at e1; cases e1
theorem callInt : CallR X (.type "int") (rIntU X.K) := CallR.or call_int1 (CallR.or call_int_str callIntL)
def rListU (K : PySem.W.Frag) : List V → Hp → VK → Prop := fun xs H Q => (∃ p ys, xs = [.ref p] ∧ (SqL K H p ys ∨ SqT K H p ys) ∧ ∀ l, H l = none → Q (.ref l) (upd H l (.lst ys))) ∨ rListS xs H Q
theorem callList (hc : X.calm = true) : CallR X (.type "list") (rListU X.K) := CallR.or call_list_of (call_listS hc)
end
end L3
end
section
namespace KX
open PySem PySem.Spec PyProof.Rows L2 LamX L3
/-! the rules with the written part named (within a comprehension's block it is the def's) -/
section
variable {X : Cx} {K : PySem.W.Frag} (hK : X.K = K := by rfl)
include hK
theorem opIn : OpR X (compareOp .In) (rInU K) := by subst hK; exact L3.opIn
theorem opNotIn : OpR X (compareOp .NotIn) (rNotInU K) := by subst hK; exact L3.opNotIn
theorem ixU : IxR X (rIxU K) := by subst hK; exact L3.ixU
theorem slU : SlR X (rSlU K) := by subst hK; exact L3.slU
theorem callInt : CallR X (.type "int") (rIntU K) := by subst hK; exact L3.callInt
theorem callIsi : CallR X (.builtin "isinstance") (rIsiA K) := by subst hK; exact L3.callIsi
theorem callLen : CallR X (.builtin "len") (rLen1 K) := by subst hK; exact call_len
theorem callList (hc : X.calm = true) : CallR X (.type "list") (rListU K) := by subst hK; exact L3.callList hc
theorem callAll (hc : X.calm = true) : CallR X (.builtin "all") (rAll K) := by subst hK; exact cr_all hc
theorem callRepr (hg : X.A.guards = some []) (hu : X.A.units + 64 < cLine) : CallR X (.builtin "repr") (rRepr K) := by subst hK; exact call_reprD hg hu
theorem eqU (hu : X.A.units + 64 < cLine) : OpR X (compareOp .Eq) (rEqU K) := by subst hK; exact opEq hu
theorem neU (hu : X.A.units + 64 < cLine) : OpR X (compareOp .NotEq) (rNeU K) := by subst hK; exact opNe hu
theorem fld {e : Expr} {f : Str} {pos : Pos} {ta : TE} (ha : PE X e ta) (hb : attributeBase e f X.env (eval e X.env) = eval e X.env) : PE X (.Attribute e f pos) (tFld K ta f) := by subst hK; exact pe_fld ha hb
end
end KX
namespace L3
open PySem PySem.Spec PyProof.Rows L2 LamX
section
variable {σ : L2.St} {H : Hp} {D : Ends} {Q : VK} {v x y : V} {K : PySem.W.Frag} {te ta tb : TE}
theorem iteNF {A B : Prop} (h : A) : if (!false) = true then A else B := iteT h
theorem iteNT {A B : Prop} (h : B) : if (!true) = true then A else B := iteF h
theorem s_pair {i j : Nat} {tt : TA} (h : tt σ H fun vs H1 => ∃ v w, vs = [v, w] ∧ D.nx ((σ.set i (some v)).set j (some w)) H1) : tPar i j tt D σ H := h
theorem s_pair2 {R : V → V → Prop} (h : R x y) : ∃ v w, [x, y] = [v, w] ∧ R v w := ⟨x, y, rfl, h⟩
theorem s_fld {tv : TE} {f : Str} (h : tv σ H fun y H1 => ta σ H1 fun x H2 => ∃ a C dx fs, x = .ref a ∧ H2 a = some (.ins C dx fs) ∧ Cls K C ∧ NoAttr K C f ∧ fs.length < 1000 ∧ D.nx σ (upd H2 a (.ins C dx (putF f y fs)))) : sFld K ta tv f D σ H := h
theorem s_make {C : Addr} {sp : Sp} {dvs : List V} {E : XK} {tt : TA} (h : tt σ H fun vs H1 => ∀ p dx, H1 p = none → H1 dx = none → dx ≠ p → sp (.ref p :: (vs ++ dvs)) (upd (upd H1 dx (.own p)) p (.ins C dx [])) (fun v H2 => v = .non ∧ ap Q (.ref p) H2) E) : tMake C sp dvs E tt σ H Q := h
theorem s_dnew (h : ∀ p H2, H p = none → Ex H H2 → H2 p = some (.dK []) → Q (.ref p) H2) : tDNewK σ H Q := fun p hp => h p _ hp (ex_new hp) upd_same
theorem s_disp1 {tk tv : TE} {k : Key} {v' : V} (hk : ∀ H' (R : VK), R (kV k) H' → tk σ H' R) (hv : ∀ H' (R : VK), R v' H' → tv σ H' R) (h : ∀ p H2, H p = none → Ex H H2 → H2 p = some (.dK [(k, v')]) → Q (.ref p) H2) : tDisp [(tk, tv)] σ H Q := fun p hp => by
  refine hk _ _ (hv _ _ ?_)
  refine ⟨upd_same, [(k, v')], rfl, (by show 1 ≤ 15; decide), ?_⟩
  refine h p _ hp (fun b o e => ?_) upd_same
  rw [upd_ne (ne_of_none e hp), upd_ne (ne_of_none e hp)]; exact e
theorem s_pow {g : Int → Int → V} {i j : Int} (c : CPow i j) (h : Q (g i j) H) : rI CPow g (.int i) (.int j) H Q := ⟨i, j, rfl, rfl, c, h⟩
theorem s_m1 {r : V → List V → Hp → VK → Prop} (h : ta σ H fun x H1 => (∃ a, x = .str a) ∧ tb σ H1 fun y H2 => r x [y] H2 Q) : tM1 r ta tb σ H Q := h
theorem s_isstr {z : Str} {R : Prop} (h : R) : (∃ a, V.str z = .str a) ∧ R := ⟨⟨z, rfl⟩, h⟩
theorem s_addI {i j : Int} (h : Q (.int (i + j)) H) : rAddU (.int i) (.int j) H Q := .inl ⟨i, j, rfl, rfl, h⟩
theorem s_addS {i j : Str} (z : i.length + j.length ≤ sizeLine) (h : Q (.str (i ++ j)) H) : rAddU (.str i) (.str j) H Q := .inr (.inl ⟨i, j, rfl, rfl, z, h⟩)
theorem s_addL {l b : Addr} {xs zs : List V} (e : H l = some (.lst xs)) (e' : H b = some (.lst zs)) (z : xs.length + zs.length ≤ sizeLine) (h : ∀ p H2, H p = none → Ex H H2 → H2 p = some (.lst (xs ++ zs)) → Q (.ref p) H2) : rAddU (.ref l) (.ref b) H Q :=
  .inr (.inr ⟨l, b, xs, zs, rfl, rfl, e, e', z, fun p hp => h p _ hp (ex_new hp) upd_same⟩)
theorem s_mulI {i j : Int} (c : IntMulOk i j) (h : Q (.int (i * j)) H) : rMulU (.int i) (.int j) H Q := .inl ⟨i, j, rfl, rfl, c, h⟩
theorem s_mulS {z : Str} {n : Int} (h1 : 2 ≤ n) (h2 : n ≤ 100000) (hz : z.length = 1) (h : Q (.str (repS z n.toNat)) H) : rMulU (.str z) (.int n) H Q := .inr (.inl ⟨z, n, rfl, rfl, h1, h2, hz, h⟩)
theorem s_isN (h : Q (.bl (decide (x = .non))) H) : rIsU x .non H Q := .inl ⟨rfl, h⟩
theorem s_isB {a b : Bool} (h : Q (.bl (decide (a = b))) H) : rIsU (.bl a) (.bl b) H Q := .inr ⟨a, b, rfl, rfl, h⟩
theorem s_nisN (h : Q (.bl (!decide (x = .non))) H) : rIsNotU x .non H Q := .inl ⟨rfl, h⟩
theorem s_nisB {a b : Bool} (h : Q (.bl (!decide (a = b))) H) : rIsNotU (.bl a) (.bl b) H Q := .inr ⟨a, b, rfl, rfl, h⟩
theorem s_inS {c : Nat} {z : Str} (h : Q (.bl (decide (c ∈ z.cps.toList))) H) : rInU K (.str ⟨#[c]⟩) (.str z) H Q := .inl ⟨c, z, rfl, rfl, h⟩
theorem s_ninS {c : Nat} {z : Str} (h : Q (.bl (!decide (c ∈ z.cps.toList))) H) : rNotInU K (.str ⟨#[c]⟩) (.str z) H Q := .inl ⟨c, z, rfl, rfl, h⟩
theorem s_inT {p : Addr} {xs : List V} (hs : SqT K H p xs) (hx : flatV x = true) (ha : xs.all flatV = true) (h : Q (.bl (inV x xs)) H) : rInU K x (.ref p) H Q := .inr ⟨p, xs, rfl, .inr hs, hx, ha, h⟩
theorem s_inL {p : Addr} {xs : List V} (hs : H p = some (.lst xs)) (hx : flatV x = true) (ha : xs.all flatV = true) (h : Q (.bl (inV x xs)) H) : rInU K x (.ref p) H Q := .inr ⟨p, xs, rfl, .inl (.inl (.inl hs)), hx, ha, h⟩
theorem s_iL {p : Addr} {xs : List V} {i : Int} (hp : H p = some (.lst xs)) (e : atI xs i = some v) (h : Q v H) : rIxU K (.ref p) (.int i) H Q := .inl ⟨p, xs, i, v, rfl, rfl, .inl (.inl hp), e, h⟩
theorem s_iT {p : Addr} {xs : List V} {i : Int} (hp : H p = some (.tup xs)) (e : atI xs i = some v) (h : Q v H) : rIxU K (.ref p) (.int i) H Q := .inr (.inl ⟨p, xs, i, v, rfl, rfl, .inl (.inl hp), e, h⟩)
theorem s_iS {z : Str} {i : Int} {c : Nat} (hz : z.length ≤ sizeLine) (e : atI z.cps.toList i = some c) (h : Q (.str ⟨#[c]⟩) H) : rIxU K (.str z) (.int i) H Q := .inr (.inr ⟨z, i, c, rfl, rfl, hz, e, h⟩)
theorem s_slice {r : V → Option Int → Option Int → Hp → VK → Prop} {tl th : TO} (h : te σ H fun x H1 => tl σ H1 fun l H2 => th σ H2 fun u H3 => r x l u H3 Q) : tSl r te tl th σ H Q := h
theorem s_part {R : Option Int → Hp → Prop} (h : te σ H fun x H1 => ∃ i, x = .int i ∧ R (some i) H1) : tPart te σ H R := h
theorem s_partI {R : Int → Prop} {i : Int} (h : R i) : ∃ j, V.int i = .int j ∧ R j := ⟨i, rfl, h⟩
theorem s_nopart {R : Option Int → Hp → Prop} (h : R none H) : tNoPart σ H R := h
theorem s_slS {z : Str} {lo hi : Option Int} (hz : z.length ≤ sizeLine) (h : Q (.str (cutS z lo hi)) H) : rSlU K (.str z) lo hi H Q := .inr ⟨z, rfl, hz, h⟩
theorem s_slL {p : Addr} {xs : List V} {lo hi : Option Int} (hs : SqL K H p xs) (h : ∀ q H2, H q = none → Ex H H2 → H2 q = some (.lst (cutV xs lo hi)) → Q (.ref q) H2) : rSlU K (.ref p) lo hi H Q :=
  .inl ⟨p, xs, rfl, hs, fun q hq => h q _ hq (ex_new hq) upd_same⟩
theorem s_cI {i : Int} (h : Q (.int i) H) : rIntU K [.int i] H Q := .inl (.inl ⟨i, rfl, h⟩)
theorem s_cB {b : Bool} (h : Q (.int (if b then 1 else 0)) H) : rIntU K [.bl b] H Q := .inl (.inr ⟨b, rfl, h⟩)
theorem s_cT {z : Str} {n : Int} (e : PySem.intText? z = some n) (hz : z.length ≤ 640) (h : Q (.int n) H) : rIntU K [.str z] H Q := .inr (.inl ⟨z, n, rfl, e, hz, h⟩)
theorem s_listL {p : Addr} {xs : List V} (hs : SqL K H p xs) (h : ∀ q H2, H q = none → Ex H H2 → H2 q = some (.lst xs) → Q (.ref q) H2) : rListU K [.ref p] H Q :=
  .inl ⟨p, xs, rfl, .inl hs, fun q hq => h q _ hq (ex_new hq) upd_same⟩
theorem s_listS {z : Str} (hz : z.length ≤ sizeLine) (h : ∀ q H2, H q = none → Ex H H2 → H2 q = some (.lst (chars z)) → Q (.ref q) H2) : rListU K [.str z] H Q :=
  .inr ⟨z, rfl, hz, fun q hq => h q _ hq (ex_new hq) upd_same⟩
theorem s_isiT {n : String} {t : Value} {b : Bool} (ty : TyA K H x t) (e : PySem.W.kitOne K t (.type n) = some b) (h : Q (.bl b) H) : rIsiA K [x, .ty n] H Q := ⟨x, .ty n, t, .type n, b, rfl, .ty n, ty, e, h⟩
theorem s_isiC {C : Addr} {t : Value} {b : Bool} (ty : TyA K H x t) (e : PySem.W.kitOne K t (.ref C) = some b) (h : Q (.bl b) H) : rIsiA K [x, .ref C] H Q := ⟨x, .ref C, t, .ref C, b, rfl, .own C, ty, e, h⟩
theorem s_repr {d : PyData} (hd : Dp K H x d) (h1 : d.showable = true) (h2 : d.depth ≤ 60) (h3 : d.shown.length ≤ sizeLine) (h : Q (.str d.shown) H) : rRepr K [x] H Q := ⟨x, d, rfl, hd, h1, h2, h3, h⟩
theorem s_chain {r r' : R2} {tc : TE} (h : ta σ H fun x H1 => tb σ H1 fun y H2 => r x y H2 fun z H3 => ∃ k, z = .bl k ∧ (if k = true then tc σ H3 fun w' H4 => r' y w' H4 Q else Q (.bl false) H3)) : tChain r r' ta tb tc σ H Q := h
theorem s_bm {T : String} {r : V → List V → Hp → VK → Prop} {t : TA} (h : te σ H fun x H1 => tyV K T x H1 ∧ t σ H1 fun xs H2 => r x xs H2 Q) : tBM K T r te t σ H Q := h
theorem s_tyL {p : Addr} {xs : List V} {R : Prop} (hp : H p = some (.lst xs)) (h : R) : tyV K "list" (.ref p) H ∧ R := ⟨.inl ⟨rfl, _, .inl (.inl hp)⟩, h⟩
theorem s_app {p : Addr} {xs : List V} (hp : H p = some (.lst xs)) (hz : xs.length < sizeLine) (h : Q .non (upd H p (.lst (xs ++ [y])))) : rAppend (.ref p) [y] H Q := ⟨p, xs, y, rfl, rfl, hp, hz, h⟩
theorem s_all {a : Addr} {bs : List Bool} (hs : H a = some (.lst (bs.map V.bl))) (h : Q (.bl (bs.all id)) H) : rAll K [.ref a] H Q := ⟨a, bs, rfl, .inl (.inl hs), h⟩
theorem s_strI {R : Int → Prop} {i : Int} (hi : i.natAbs.log2 < 1920) (h : R i) : ∃ j, [V.int i] = [.int j] ∧ j.natAbs.log2 < 1920 ∧ R j := ⟨i, rfl, hi, h⟩
/-! comprehensions over a text, pure ones -/
def LC (J : It) (g : TG) (tt : TT) (te : TE) (vs : List Nat) (σ : L2.St) (H1 : Hp) (Q : VK) : Prop := ∀ D, H1 D = none → ∃ W : Nat → Nat → Hp → Prop, (∃ m, W 0 m (upd H1 D (.lst []))) ∧ ∀ i m H, W i m H →
  (J.stop i H ∧ Q (.ref D) H) ∨ (J.go i H ∧ ∃ Nx : Hp → Prop, (∀ H', Nx H' → ∃ m', m' < m ∧ W (i + 1) m' H') ∧ ∀ x H', J.yld i H x H' → g x (wipe σ vs) H' fun σ2 H2 => wipe σ2 vs = wipe σ vs ∧ tt σ2 H2 fun b H3 =>
    if b = true then te σ2 H3 fun y H4 => ∃ acc, H4 D = some (.lst acc) ∧ acc.length < sizeLine ∧ Nx (upd H4 D (.lst (acc ++ [y]))) else Nx H3)
theorem s_lcS {g : TG} {tt : TT} {vs : List Nat} (h : ta σ H fun v H1 => ∃ z, v = .str z ∧ LC (Its z) g tt te vs σ H1 Q) : tLc (iStr ta) g tt te vs σ H Q := h
theorem s_lcR {g : TG} {tt : TT} {vs : List Nat} {tr : TA} (h : tr σ H fun ws H1 => ∃ j : Int, ws = [.int j] ∧ -(2 ^ 62) ≤ j ∧ j < 2 ^ 62 ∧ LC (Itr 0 j.toNat) g tt te vs σ H1 Q) : tLc (iRng1 tr) g tt te vs σ H Q := h
theorem s_strE {R : Str → Prop} {z : Str} (h : R z) : ∃ y, V.str z = .str y ∧ R y := ⟨z, rfl, h⟩
theorem lcStr {z : Str} {j : Nat} {tt : TT} {vs : List Nat} (p : Nat → Bool) (f : Nat → V) (hz : z.length < sizeLine) (hw : ∀ x, wipe ((wipe σ vs).set j (some x)) vs = wipe σ vs)
    (ht : ∀ (c : Nat) (H' : Hp) (R : Bool → Hp → Prop), R (p c) H' → tt ((wipe σ vs).set j (some (.str ⟨#[c]⟩))) H' R) (he : ∀ (c : Nat) (H' : Hp) (R : VK), p c = true → R (f c) H' → te ((wipe σ vs).set j (some (.str ⟨#[c]⟩))) H' R)
    (k : ∀ q H2, H q = none → Ex H H2 → H2 q = some (.lst ((z.cps.toList.filter p).map f)) → Q (.ref q) H2) : LC (Its z) (gName j) tt te vs σ H Q := by
  intro Dl hD
  have hlen : z.cps.toList.length = z.cps.size := Array.length_toList
  refine lc_it walk_str (fun i H' => Ex H H' ∧ H' Dl = some (.lst (((z.cps.toList.take i).filter p).map f)) ∧ ∀ b, b ≠ Dl → H' b = H b) ⟨ex_new hD, by rw [upd_same]; rfl, fun b hb => upd_ne hb⟩ (fun _ _ _ _ => trivial) ?_ ?_
  · rintro i x H1 H2 hi ⟨e1, e2, e3⟩ ⟨rfl, c, hc, rfl⟩
    have hc' : z.cps.toList[i]? = some c := by simpa using hc
    have htk : z.cps.toList.take (i + 1) = z.cps.toList.take i ++ [c] := by rw [List.take_add_one, hc']; rfl
    show wipe _ vs = wipe σ vs ∧ _
    refine ⟨hw _, ht c H2 _ ?_⟩
    refine iteB (fun hp => ?_) (fun hp => ?_)
    · refine he c H2 _ hp ⟨_, e2, ?_, fun b o hb => ?_, ?_, fun b hb => ?_⟩
      · rw [List.length_map]
        refine Nat.lt_of_le_of_lt (List.length_filter_le _ _) (Nat.lt_of_le_of_lt ?_ hz)
        rw [List.length_take]
        show _ ≤ z.cps.size
        omega
      · rw [upd_ne (ne_of_none hb hD)]
        exact e1 b o hb
      · rw [upd_same, htk, List.filter_append, List.map_append]
        simp [hp]
      · rw [upd_ne hb]; exact e3 b hb
    · refine ⟨e1, ?_, e3⟩
      rw [e2, htk, List.filter_append, List.map_append]
      simp [hp]
  · rintro H1 ⟨e1, e2, _⟩
    rw [show z.cps.size = z.cps.toList.length from hlen.symm, List.take_length] at e2
    exact k _ _ hD e1 e2
end
end L3
end
section
local macro_rules | `(tactic| tm_at "s1") => `(tactic| first
  | with_reducible first
    | refine L3.s_seq ?_ | refine L3.s_asg ?_ | refine L3.s_op ?_ | refine L3.s_c ?_ | refine L3.s_cb ?_ | refine L3.s_cons ?_ | refine L3.s_nil ?_ | refine L3.s_test ?_ | refine L3.s_bl ?_
    | refine L3.s_I0 ?_ | refine L3.s_and ?_ | refine L3.s_or ?_ | refine L3.s_not ?_ | refine L3.s_if ?_ | refine L3.s_next ?_ | refine L3.s_ret ?_ | refine L3.s_retN ?_ | refine L3.s_asgS ?_ | refine L3.s_drop ?_
    | refine L3.s_un ?_ | refine L3.s_U ?_ | refine L3.s_int ?_ | refine L3.s_intB ?_ | refine L3.s_abs ?_ | refine L3.s_andV ?_ | refine L3.s_orV ?_ | refine L3.s_notV ?_ | refine L3.s_ifE ?_ | refine L3.s_call ?_ | refine L3.s_lst ?_ | refine L3.s_tup ?_ | refine L3.s_tB ?_
    | refine L3.s_addI ?_ | refine L3.s_inS ?_ | refine L3.s_ninS ?_ | refine L3.s_slice ?_ | refine L3.s_part ?_ | refine L3.s_partI ?_ | refine L3.s_nopart ?_ | refine L3.s_cI ?_ | refine L3.s_cB ?_ | refine L3.s_chain ?_ | refine L3.s_bm ?_ | refine L3.s_lcS ?_ | refine L3.s_lcR ?_ | refine L3.s_strE ?_
    | refine L2.iteT ?_ | refine L2.iteF ?_ | refine L3.iteNF ?_ | refine L3.iteNT ?_
    | refine L3.s_eqI ?_ | refine L3.s_neI ?_ | refine L3.s_eqS ?_ | refine L3.s_neS ?_
    | refine L3.s_pair ?_ | refine L3.s_pair2 ?_ | refine L3.s_fld ?_ | refine L3.s_make ?_ | refine L3.s_m1 ?_ | refine L3.s_isstr ?_
    | refine L3.s_isN ?_ | refine L3.s_isB ?_ | refine L3.s_nisN ?_ | refine L3.s_nisB ?_
  | ((with_reducible refine' L3.s_var ?e ?_); (case e => rfl))
  | ((with_reducible refine' L3.s_pow ?c ?_); (case c => exact ⟨by decide, by decide, by decide⟩)))
local macro_rules | `(tactic| tm_at "s") => `(tactic| repeat tm_at "s1")
namespace L3
open PySem PySem.Spec PyProof.Rows L2
/-! ## the draw, whatever its numbers are -/
theorem mulL {i j : Int} (h : -(2 ^ 64) < i ∧ i < 2 ^ 64) : IntMulOk i j := CMul.ok (.inl h)
def spDraw : Sp := fun vs H Q _ => ∃ a n many, vs = [.ref a, .int many] ∧ 0 < many ∧ many.natAbs < 2 ^ 8000 ∧ Pen H a n ∧ n < lim ∧
  ∀ (d : Int) (H' : Hp), 0 ≤ d → d < many → Pen H' a (n + 1) → (∀ b o, b ≠ a → H b = some o → H' b = some o) → Q (.int d) H'
abbrev rSub : R2 := rI0 fun i j => V.int (i - j)
abbrev rMod : R2 := rI (fun _ j => 0 < j) fun i j => V.int (i % j)
abbrev rDivW : R2 := rI CDivW fun i j => V.int (i / j)
abbrev rPow : R2 := rI CPow fun i j => V.int (i ^ j.toNat)
abbrev t1 (r : List V → Hp → VK → Prop) (te : TE) : TE := tCB r (tCons te tNil)
abbrev tI (i : Int) : TE := tC (.int i)
def tDraw (K : PySem.W.Frag) (c1 c2 c3 c4 c5 c6 c7 c8 c9 c10 : Int) : TS :=
  tSeq (tIfS (tTest (tOp (rI0 fun i j => V.bl (decide (j < i))) (tOp (rIxU K) (tVar 0) (tI 2)) (tI 0)))
    (tSeq (tAsg (tOp rMod (t1 (rIntU K) (tOp (rIxU K) (tVar 0) (tI 2))) (tVar 1)) (gName 2))
    (tSeq (tAsg (tOp rDivW (t1 (rIntU K) (tOp (rIxU K) (tVar 0) (tI 2))) (tVar 1)) (gSub (tVar 0) (tI 2) rSetL))
      (tRet (tVar 2)))) tNext)
  (tSeq (tAsg (tOp (rIxU K) (tVar 0) (tI 1)) (gName 3))
  (tSeq (tAsg (tOp rAddU (tVar 3) (tI 1)) (gSub (tVar 0) (tI 1) rSetL))
  (tSeq (tAsg (tOp rAddU (tOp rMulU (tI c1) (tVar 3)) (tI c2)) (gName 4))
  (Evl.tCut (tIfS (tTest (tOp (rNeU K) (tOp (rIxU K) (tVar 0) (tI 0)) (tLst tNil)))
    (tAsg (tOp (rIxU K) (tOp (rIxU K) (tVar 0) (tI 0)) (tOp rMod (t1 (rIntU K) (tVar 3)) (t1 (rLen1 K) (tOp (rIxU K) (tVar 0) (tI 0))))) (gName 4)) tNext)
  (tSeq (tIfS (tAnd (tTest (tOp (rI0 fun i j => V.bl (decide (i < j))) (tVar 3) (t1 (rLen1 K) (tOp (rIxU K) (tVar 0) (tI 0))))) (tTest (tOp (rI0 fun i j => V.bl (decide (j ≤ i))) (t1 rAbs1 (tVar 4)) (tOp rPow (tI 10) (tI 18)))))
    (tSeq (tAsg (tOp rAddU (tOp rMulU (tI 2) (tOp rSub (t1 rAbs1 (tVar 4)) (tOp rPow (tI 10) (tI 18)))) (t1 (rIntU K) (tOp (rI0 fun i j => V.bl (decide (i < j))) (tVar 4) (tI 0)))) (gName 5))
    (tSeq (tAsg (tOp rDivW (t1 (rIntU K) (tVar 5)) (tVar 1)) (gSub (tVar 0) (tI 2) rSetL))
      (tRet (tOp rMod (t1 (rIntU K) (tVar 5)) (tVar 1))))) tNext)
  (tSeq (tAsg (tOp rMod (t1 (rIntU K) (tOp rPow (tOp rAddU (tOp rAddU (tOp rMod (t1 (rIntU K) (tVar 4)) (tI c3)) (tOp rMulU (tI c4) (tVar 3))) (tI c5)) (tI 5))) (tI c6)) (gName 6))
  (tSeq (tAsg (tOp rMod (t1 (rIntU K) (tOp rPow (tOp rAddU (tOp rAddU (tOp rMulU (tVar 6) (tOp rAddU (tOp rMulU (tI 2) (tVar 3)) (tI c7))) (tOp rMulU (tOp rMulU (tI c8) (tVar 3)) (tVar 3))) (tI c9)) (tI 3))) (tI c10)) (gName 6))
    (tRet (tOp rMod (t1 (rIntU K) (tOp rDivW (tVar 6) (tI 32))) (tVar 1))))))))))
structure DrawC (c1 c2 c3 c4 c5 c6 c7 c8 c9 c10 : Int) : Prop where
  h1 : 0 ≤ c1 ∧ c1 < 1000000
  h3 : 0 < c3 ∧ c3 < 4294967296
  h4 : 0 ≤ c4 ∧ c4 < 1000000
  h5 : 0 ≤ c5 ∧ c5 < 1000000
  h6 : 0 < c6 ∧ c6 < 4294967296
  h7 : 0 ≤ c7 ∧ c7 < 1000000
  h8 : 0 ≤ c8 ∧ c8 < 1000000
  h9 : 0 ≤ c9 ∧ c9 < 1000000
  h10 : 0 < c10 ∧ c10 < 4294967296
theorem shInts (ns : List Int) : SeqAt.shaped (.list (ns.map PyData.int)) = true := by
  have h1 : ∀ l : List Int, PyData.canLayAll0 (l.map PyData.int) = true := by
    intro l
    induction l with
    | nil => rfl
    | cons x r ih => rw [List.map_cons]; unfold PyData.canLayAll0; rw [ih]; rfl
  have h2 : ∀ l : List Int, PyData.depthAll (l.map PyData.int) = 0 := by
    intro l
    induction l with
    | nil => rfl
    | cons x r ih => rw [List.map_cons]; unfold PyData.depthAll; rw [ih]; rfl
  unfold SeqAt.shaped PyData.canLay0 PyData.depth
  rw [h1, h2]; decide
theorem atI_int {α : Type} {xs : List α} {i : Int} (h0 : 0 ≤ i) (h : i < xs.length) : atI xs i = xs[i.toNat]? := by
  unfold atI ixN
  rw [if_pos h0, if_pos h]
  rfl
theorem natAbs_lt {x : Int} {k : Nat} (h0 : 0 ≤ x) (h : x < k) : x.natAbs < k := by omega
theorem rd_draw {K : PySem.W.Frag} {c1 c2 c3 c4 c5 c6 c7 c8 c9 c10 : Int} (C : DrawC c1 c2 c3 c4 c5 c6 c7 c8 c9 c10) {a c : Addr} {n : Nat} {many : Int} {ns : List Int} {H : Hp} {Q : VK} {Nn : L2.St → Hp → Prop} {B1 B2 : L2.St → Hp → Prop}
    (hm : 0 < many) (hm2 : many.natAbs < 2 ^ 8000) (ha : H a = some (PenO a c n)) (hc : H c = some (.lst (ns.map V.int))) (hn : n < lim) (hl : ns.length ≤ 63)
    (k : ∀ (d : Int) (H' : Hp), 0 ≤ d → d < many → (H' a = some (PenO a c (n + 1)) ∧ H' c = some (.lst (ns.map V.int))) → (∀ b o, b ≠ a → H b = some o → H' b = some o) → Q (.int d) H') :
    tPen a c n (n + 1) (tDraw K c1 c2 c3 c4 c5 c6 c7 c8 c9 c10) { nx := Nn, rt := Q, bk := B1, ct := B2 } [some (.ref a), some (.int many), none, none, none, none, none] H := by
  refine ⟨ha, fun spot rest h0 h1 => ?_⟩
  have nca : c ≠ a := fun z => by rw [z, ha] at hc; cases hc
  have fin : ∀ (d spot' rest' : Int) (H1 : Hp), 0 ≤ d → d < many → 0 ≤ spot' → spot' ≤ n + 1 → H1 a = some (.lst [.ref c, .int spot', .int rest']) → (∀ b o, b ≠ a → H b = some o → H1 b = some o) → penBack a c (n + 1) (Q (.int d)) H1 := by
    intro d sp re H1 d0 d1 s0 s1 e q
    exact ⟨sp, re, e, s0, by omega, k d _ d0 d1 ⟨upd_same, by rw [upd_ne nca]; exact q c _ nca hc⟩ (fun b o hb => by rw [upd_ne hb]; exact q b o hb)⟩
  unfold tDraw
  tm_at "s"
  refine s_iL upd_same rfl ?_
  tm_at "s"
  refine iteD (fun hpos => ?_) (fun _ => ?_)
  · tm_at "s"
    refine s_iL upd_same rfl ?_
    tm_at "s"
    refine s_I hm ?_
    tm_at "s"
    refine s_iL upd_same rfl ?_
    tm_at "s"
    refine s_I (wide_div hm hm2 (by decide) (by decide)) ?_
    tm_at "s"
    refine s_setL upd_same rfl ?_
    tm_at "s"
    exact fin _ spot _ _ (Int.emod_nonneg _ (by omega)) (Int.emod_lt_of_pos _ hm) h0 (by omega) upd_same (fun b o hb hh => by rw [upd_ne hb, upd_ne hb]; exact hh)
  · tm_at "s"
    refine s_iL upd_same rfl ?_
    tm_at "s"
    refine s_setL upd_same rfl ?_
    have hs : (spot : Int) ≤ 1000000 := by unfold lim at hn; omega
    tm_at "s"
    refine s_mulI (mulL ⟨by have := C.h1; omega, by have := C.h1; omega⟩) ?_
    tm_at "s"
    refine s_cut (M := fun σ' H' => ∃ cell : Int, σ' = [some (.ref a), some (.int many), none, some (.int spot), some (.int cell), none, none] ∧ H' a = some (.lst [.ref c, .int (spot + 1), .int rest]) ∧ ∀ b o, b ≠ a → H b = some o → H' b = some o) ?_ ?_
    · tm_at "s"
      refine s_iL upd_same rfl ?_
      tm_at "s"
      refine s_new (by decide) fun p H2 hp e2 h2 => ?_
      have a2 : H2 a = some (.lst [.ref c, .int (spot + 1), .int rest]) := e2 _ _ upd_same
      have k2 : ∀ b o, b ≠ a → H b = some o → H2 b = some o := fun b o hb hh => e2 _ _ (by rw [upd_ne hb, upd_ne hb]; exact hh)
      have c2 := k2 c _ nca hc
      clear hp e2
      refine s_neD' (.lst (.inl (.inl c2)) (dpInts ns)) (.lst (.inl (.inl h2)) .nil) (shInts ns) rfl ?_
      tm_at "s"
      refine iteB (fun hne => ?_) (fun _ => ?_)
      · tm_at "s"
        refine s_iL a2 rfl ?_
        tm_at "s"
        refine s_iL a2 rfl ?_
        tm_at "s"
        refine s_lenL c2 ?_
        rw [List.length_map]
        have hns : 0 < ns.length := by
          cases ns with
          | nil => exact absurd hne (by decide)
          | cons x r => exact Nat.succ_pos _
        refine s_I (by omega) ?_
        have hx : spot % (ns.length : Int) < ns.length := Int.emod_lt_of_pos _ (by omega)
        have hx0 : 0 ≤ spot % (ns.length : Int) := Int.emod_nonneg _ (by omega)
        have hxn : (spot % (ns.length : Int)).toNat < ns.length := by omega
        refine s_iL c2 (v := .int (ns[(spot % (ns.length : Int)).toNat]'hxn)) ?_ ?_
        · rw [atI_int hx0 (by rw [List.length_map]; exact hx), List.getElem?_map, List.getElem?_eq_getElem hxn]
          rfl
        · exact ⟨_, rfl, a2, k2⟩
      · tm_at "s"
        exact ⟨_, rfl, a2, k2⟩
    · rintro σ' H2 ⟨cell, rfl, a2, k2⟩
      have c2 := k2 c _ nca hc
      have main : (tSeq (tAsg (tOp rMod (t1 (rIntU K) (tOp rPow (tOp rAddU (tOp rAddU (tOp rMod (t1 (rIntU K) (tVar 4)) (tI c3)) (tOp rMulU (tI c4) (tVar 3))) (tI c5)) (tI 5))) (tI c6)) (gName 6))
          (tSeq (tAsg (tOp rMod (t1 (rIntU K) (tOp rPow (tOp rAddU (tOp rAddU (tOp rMulU (tVar 6) (tOp rAddU (tOp rMulU (tI 2) (tVar 3)) (tI c7))) (tOp rMulU (tOp rMulU (tI c8) (tVar 3)) (tVar 3))) (tI c9)) (tI 3))) (tI c10)) (gName 6))
            (tRet (tOp rMod (t1 (rIntU K) (tOp rDivW (tVar 6) (tI 32))) (tVar 1)))))
          { nx := fun σ' => penBack a c (n + 1) (Nn σ'), rt := fun v => penBack a c (n + 1) (Q v), bk := fun σ' => penBack a c (n + 1) (B1 σ'), ct := fun σ' => penBack a c (n + 1) (B2 σ') }
          [some (.ref a), some (.int many), none, some (.int spot), some (.int cell), none, none] H2 := by
        have hc3 := C.h3; have hc4 := C.h4; have hc5 := C.h5; have hc6 := C.h6; have hc7 := C.h7; have hc8 := C.h8; have hc9 := C.h9; have hc10 := C.h10
        tm_at "s"
        refine s_I hc3.1 ?_
        tm_at "s"
        refine s_mulI (mulL ⟨by omega, by omega⟩) ?_
        tm_at "s"
        have e1 : 0 ≤ cell % c3 := Int.emod_nonneg _ (by omega)
        have e2 : cell % c3 < c3 := Int.emod_lt_of_pos _ hc3.1
        have e3 : 0 ≤ c4 * spot := Int.mul_nonneg hc4.1 h0
        have e4 : c4 * spot ≤ 1000000 * 1000000 := Int.mul_le_mul (by omega) hs h0 (by decide)
        refine s_pow ⟨by decide, by decide, ?_⟩ ?_
        · exact natAbs_lt (by omega) (by show _ < ((2 ^ 64 : Nat) : Int); omega)
        tm_at "s"
        refine s_I hc6.1 ?_
        generalize hg : ((cell % c3 + c4 * spot + c5) ^ (Int.toNat 5)) % c6 = g
        have g0 : 0 ≤ g := by rw [← hg]; exact Int.emod_nonneg _ (by omega)
        have g1 : g < c6 := by rw [← hg]; exact Int.emod_lt_of_pos _ hc6.1
        tm_at "s"
        refine s_mulI (mulL (by decide)) ?_
        tm_at "s"
        refine s_mulI (mulL ⟨by omega, by omega⟩) ?_
        tm_at "s"
        refine s_mulI (mulL ⟨by omega, by omega⟩) ?_
        have f3 : 0 ≤ c8 * spot := Int.mul_nonneg hc8.1 h0
        have f4 : c8 * spot ≤ 1000000 * 1000000 := Int.mul_le_mul (by omega) hs h0 (by decide)
        tm_at "s"
        refine s_mulI (mulL ⟨by omega, by omega⟩) ?_
        have f5 : 0 ≤ c8 * spot * spot := Int.mul_nonneg f3 h0
        have f6 : c8 * spot * spot ≤ 1000000 * 1000000 * 1000000 := Int.mul_le_mul f4 hs h0 (by decide)
        have f7 : 0 ≤ g * (2 * spot + c7) := Int.mul_nonneg g0 (by omega)
        have f8 : g * (2 * spot + c7) ≤ 4294967296 * 3000000 := Int.mul_le_mul (by omega) (by omega) (by omega) (by decide)
        tm_at "s"
        refine s_pow ⟨by decide, by decide, ?_⟩ ?_
        · exact natAbs_lt (by omega) (by show _ < ((2 ^ 64 : Nat) : Int); omega)
        tm_at "s"
        refine s_I hc10.1 ?_
        tm_at "s"
        refine s_I (wide_div (b := 64) (by decide) (by decide) (by decide) (by decide)) ?_
        tm_at "s"
        refine s_I hm ?_
        exact fin _ (spot + 1) rest _ (Int.emod_nonneg _ (by omega)) (Int.emod_lt_of_pos _ hm) (by omega) (by omega) a2 k2
      tm_at "s"
      refine s_iL a2 rfl ?_
      tm_at "s"
      refine s_lenL c2 ?_
      tm_at "s"
      refine iteD (fun _ => ?_) (fun _ => ?_)
      · tm_at "s"
        refine iteD (fun hbig => ?_) (fun _ => ?_)
        · tm_at "s"
          refine s_mulI (mulL (by decide)) ?_
          tm_at "s"
          refine s_I (wide_div hm hm2 (by decide) (by decide)) ?_
          tm_at "s"
          refine s_setL a2 rfl ?_
          tm_at "s"
          refine s_I hm ?_
          exact fin _ (spot + 1) _ _ (Int.emod_nonneg _ (by omega)) (Int.emod_lt_of_pos _ hm) (by omega) (by omega) upd_same (fun b o hb hh => by rw [upd_ne hb]; exact k2 b o hb hh)
        · exact main
      · refine iteF ?_
        exact main
theorem rd_drawS {K : PySem.W.Frag} {c1 c2 c3 c4 c5 c6 c7 c8 c9 c10 : Int} (C : DrawC c1 c2 c3 c4 c5 c6 c7 c8 c9 c10) {a c : Addr} {n : Nat} {many : Int} {ns : List Int} {H : Hp} {Q : VK} {Nn : L2.St → Hp → Prop} {B1 B2 : L2.St → Hp → Prop}
    (hm : 0 < many) (hm2 : many.natAbs < 2 ^ 8000) (ha : H a = some (PenO a c n)) (hc : H c = some (ScO c ns)) (hn : n < lim) (hl : ns.length ≤ 63 ∧ c ≠ a)
    (k : ∀ (d : Int) (H' : Hp), 0 ≤ d → d < many → Pen H' a (n + 1) → (∀ b o, b ≠ a → H b = some o → H' b = some o) → Q (.int d) H') :
    tSc c ns (tPen a c n (n + 1) (tDraw K c1 c2 c3 c4 c5 c6 c7 c8 c9 c10)) { nx := Nn, rt := Q, bk := B1, ct := B2 } [some (.ref a), some (.int many), none, none, none, none, none] H := by
  refine ⟨hc, rd_draw C hm hm2 (by rw [upd_ne (Ne.symm hl.2)]; exact ha) upd_same hn hl.1 fun d H' d0 d1 ⟨p1, p2⟩ q => ?_⟩
  refine ⟨p2, k d _ d0 d1 ⟨c, ns, by rw [upd_ne (Ne.symm hl.2)]; exact p1, upd_same, hl⟩ fun b o hb ho => ?_⟩
  by_cases hbc : b = c
  · subst hbc
    rw [upd_same, ← hc]; exact ho
  · rw [upd_ne hbc]
    exact q b o hb (by rw [upd_ne hbc]; exact ho)
end L3
end
section
namespace L3
open PySem PySem.Spec PyProof.Rows L2 PySem.NumText
/-! ## Texts of numbers -/
theorem str_ext {a b : Str} (h : a.cps.toList = b.cps.toList) : a = b := by
  cases a; cases b
  have := Array.ext' h
  cases this; rfl
theorem cut_take (z : Str) : (cutS z none (some 1)).cps.toList = z.cps.toList.take 1 := by
  unfold cutS
  have e0 : HT.sIx z.length 0 none = 0 := rfl
  have e1 : z.cps.toList.length = z.length := Array.length_toList
  rw [e0, List.drop_zero, Nat.sub_zero]
  show z.cps.toList.take (HT.sIx z.length z.length (some 1)) = _
  have : HT.sIx z.length z.length (some 1) = min 1 z.length := by
    unfold HT.sIx
    simp
    try omega
  rw [this]
  by_cases h : z.length = 0
  · rw [h]
    have : z.cps.toList = [] := List.length_eq_zero_iff.mp (e1.trans h)
    rw [this]; rfl
  · rw [show min 1 z.length = 1 by omega]
theorem cut_drop (z : Str) : (cutS z (some 1) none).cps.toList = z.cps.toList.drop 1 := by
  unfold cutS
  have e1 : z.cps.toList.length = z.length := Array.length_toList
  have e0 : HT.sIx z.length z.length none = z.length := rfl
  rw [e0]
  have : HT.sIx z.length 0 (some 1) = min 1 z.length := by
    unfold HT.sIx
    simp
    try omega
  rw [this]
  show (z.cps.toList.drop (min 1 z.length)).take (z.length - min 1 z.length) = _
  rw [List.take_of_length_le (by rw [List.length_drop]; omega)]
  by_cases h : z.length = 0
  · have : z.cps.toList = [] := List.length_eq_zero_iff.mp (e1.trans h)
    rw [this]; simp
  · rw [show min 1 z.length = 1 by omega]
abbrev digT : Str := "0123456789"
def isDig (c : Nat) : Bool := decide (c ∈ digT.cps.toList)
theorem isDig_iff (c : Nat) : isDig c = true ↔ 48 ≤ c ∧ c ≤ 57 := by
  unfold isDig
  rw [decide_eq_true_eq]
  show c ∈ [48, 49, 50, 51, 52, 53, 54, 55, 56, 57] ↔ _
  simp only [List.mem_cons, List.not_mem_nil, or_false]
  omega
def figsOf (z : Str) : Str := if decide (cutS z none (some 1) = "-") = true then cutS z (some 1) none else z
theorem figs_neg {z : Str} {r : List Nat} (h : z.cps.toList = 45 :: r) : (figsOf z).cps.toList = r := by
  unfold figsOf
  rw [if_pos, cut_drop, h]
  · rfl
  · refine decide_eq_true (str_ext ?_)
    rw [cut_take, h]; rfl
theorem figs_pos {z : Str} (h : z.cps.toList.head? ≠ some 45) : figsOf z = z := by
  unfold figsOf
  rw [if_neg]
  intro q
  have q := of_decide_eq_true q
  have q2 : (cutS z none (some 1)).cps.toList = [45] := by rw [q]; rfl
  rw [cut_take] at q2
  cases hz : z.cps.toList with
  | nil => rw [hz] at q2; cases q2
  | cons c r =>
    rw [hz] at q2 h
    have : c = 45 := by simpa using q2
    exact h (by rw [this]; rfl)
def figB (z : Str) : Bool := ((decide (1 ≤ ((figsOf z).length : Int)) && decide (((figsOf z).length : Int) ≤ 4000)) && (figsOf z).cps.toList.all isDig) && (decide (z = "0") || !decide ((figsOf z).cps.toList.head? = some 48))
theorem digits_all {l : List Nat} (h : l.all isDig = true) : AllDigits l := fun c hc => (isDig_iff c).mp (List.all_eq_true.mp h c hc)
/-- the number that a text of figures writes -/
def valOf (z : Str) : Int := if z.cps.toList.head? = some 45 then -((digitsVal (z.cps.toList.drop 1) : Nat) : Int) else ((digitsVal z.cps.toList : Nat) : Int)
theorem len_codes (z : Str) : z.cps.toList.length = z.length := Array.length_toList
/-- figures alone, at least one and at most 4,299 of them: the number is read -/
theorem read_figs {z : Str} (h1 : (figsOf z).cps.toList ≠ []) (h2 : (figsOf z).cps.toList.all isDig = true) (h3 : (figsOf z).length ≤ 4000) : PySem.intText? z = some (valOf z) := by
  unfold valOf
  by_cases hn : z.cps.toList.head? = some 45
  · rw [if_pos hn]
    obtain ⟨r, hr⟩ : ∃ r, z.cps.toList = 45 :: r := by
      cases hz : z.cps.toList with
      | nil => rw [hz] at hn; cases hn
      | cons c r => rw [hz] at hn; have : c = 45 := by simpa using hn
                    subst this; exact ⟨r, rfl⟩
    rw [figs_neg hr] at h1 h2
    have h4 := len_codes (figsOf z)
    rw [figs_neg hr] at h4
    have h5 := len_codes z
    rw [hr] at h5
    rw [intText_neg hr (digits_all h2) h1 (by simp at h5; omega), hr]
    rfl
  · rw [if_neg hn]
    rw [figs_pos hn] at h1 h2 h3
    exact intText_digits (digits_all h2) h1 (by omega)
theorem fig_read {z : Str} (h : figB z = true) : PySem.intText? z = some (valOf z) := by
  unfold figB at h
  simp only [Bool.and_eq_true, decide_eq_true_eq] at h
  obtain ⟨⟨⟨h1, h2⟩, h3⟩, _⟩ := h
  refine read_figs (fun e => ?_) h3 (by omega)
  have := len_codes (figsOf z)
  rw [e] at this
  simp at this
  omega
/-! str of an int -/
def strOf (n : Int) : Str := Str.ofString (toString n)
theorem strOf_nat (n : Nat) : (strOf (n : Int)).cps.toList = TL.numL n := TL.tl_num n
theorem ofString_codes (s : String) : (Str.ofString s).cps.toList = s.toList.map Char.toNat := by
  rw [Str.ofString_eq_toList]
theorem strOf_neg {m : Nat} (h : 0 < m) : (strOf (-(m : Int))).cps.toList = 45 :: TL.numL m := by
  obtain ⟨k, rfl⟩ : ∃ k, m = k + 1 := ⟨m - 1, by omega⟩
  have e : toString (-((k + 1 : Nat) : Int)) = "-" ++ toString (((k + 1 : Nat) : Int)) := rfl
  unfold strOf
  rw [e, ofString_codes, String.toList_append, List.map_append, ← ofString_codes, ← ofString_codes]
  show [45] ++ _ = _
  have := strOf_nat (k + 1)
  unfold strOf at this
  rw [this]
  rfl
theorem val_snoc (ds : List Nat) (c : Nat) : digitsVal (ds ++ [c]) = digitsVal ds * 10 + (c - 48) := by
  unfold digitsVal
  rw [List.foldl_append]
  rfl
theorem canon : ∀ (n : Nat) (ds : List Nat), ds.length = n → AllDigits ds → ds ≠ [] → ds.head? ≠ some 48 → TL.numL (digitsVal ds) = ds ∧ 0 < digitsVal ds := by
  intro n
  induction n with
  | zero => intro ds h _ hne; exact absurd (List.length_eq_zero_iff.mp h) hne
  | succ n ih =>
    intro ds hl ha hne hh
    have hd : ds = ds.dropLast ++ [ds.getLast hne] := (List.dropLast_concat_getLast hne).symm
    generalize ds.getLast hne = c at hd
    generalize ds.dropLast = es at hd
    subst hd
    have hc := ha c (by simp)
    rw [val_snoc]
    by_cases he : es = []
    · subst he
      have hc0 : c ≠ 48 := fun z => hh (by rw [z]; rfl)
      show TL.numL (0 * 10 + (c - 48)) = [c] ∧ _
      rw [Nat.zero_mul, Nat.zero_add, TL.numL_lt (by omega)]
      exact ⟨by rw [show 48 + (c - 48) = c by omega], by show 0 < 0 * 10 + (c - 48); omega⟩
    · have hl' : es.length = n := by simp at hl; omega
      have hh' : es.head? ≠ some 48 := by
        cases es with
        | nil => exact absurd rfl he
        | cons a b => exact hh
      obtain ⟨i1, i2⟩ := ih es hl' (fun d hd => ha d (by simp [hd])) he hh'
      refine ⟨?_, by omega⟩
      rw [TL.numL_step (by omega), show (digitsVal es * 10 + (c - 48)) / 10 = digitsVal es by omega, i1, show (digitsVal es * 10 + (c - 48)) % 10 = c - 48 by omega, show 48 + (c - 48) = c by omega]
theorem numL_head (n : Nat) : TL.numL n = [48] ∧ n = 0 ∨ (TL.numL n).head? ≠ some 48 ∧ 0 < n := by
  induction n using Nat.strongRecOn with
  | _ n ih =>
    by_cases h : n < 10
    · rw [TL.numL_lt h]
      by_cases h0 : n = 0
      · left; subst h0; exact ⟨rfl, rfl⟩
      · right; exact ⟨fun z => by have : 48 + n = 48 := by simpa using z
                                  omega, by omega⟩
    · right
      refine ⟨?_, by omega⟩
      rw [TL.numL_step (by omega)]
      rcases ih (n / 10) (by omega) with ⟨_, z⟩ | ⟨z, _⟩
      · omega
      · cases hq : TL.numL (n / 10) with
        | nil => exact absurd hq (TL.numL_ne _)
        | cons a b => rw [hq] at z; exact z
theorem head45 {l : List Nat} (h : l.head? = some 45) : ∃ r, l = 45 :: r := by
  cases l with
  | nil => cases h
  | cons c r => have : c = 45 := by simpa using h
                subst this; exact ⟨r, rfl⟩
/-- what str writes is just the text without a nought in front -/
theorem str_back {z : Str} (h1 : (figsOf z).cps.toList ≠ []) (h2 : (figsOf z).cps.toList.all isDig = true) :
    decide (strOf (valOf z) = z) = (decide (z = "0") || !decide ((figsOf z).cps.toList.head? = some 48)) := by
  have hx : ∀ {a : Str}, decide (a = z) = decide (a.cps.toList = z.cps.toList) := fun {a} => by
    by_cases h : a = z
    · subst h; simp
    · rw [decide_eq_false h, decide_eq_false fun q => h (str_ext q)]
  have hz0 : decide (z = "0") = decide (z.cps.toList = [48]) := by
    by_cases h : z = "0"
    · subst h; decide +kernel
    · rw [decide_eq_false h]
      exact (decide_eq_false fun q => h (str_ext q)).symm
  rw [hx, hz0]
  unfold valOf
  by_cases hn : z.cps.toList.head? = some 45
  · rw [if_pos hn]
    obtain ⟨r, hr⟩ := head45 hn
    rw [figs_neg hr] at h1 h2 ⊢
    rw [hr]
    have ha := digits_all h2
    show decide ((strOf (-((digitsVal r : Nat) : Int))).cps.toList = 45 :: r) = (decide ((45 :: r : List Nat) = [48]) || _)
    rw [decide_eq_false (show ¬ (45 :: r : List Nat) = [48] from fun q => by cases q), Bool.false_or]
    by_cases hh : r.head? = some 48
    · rw [decide_eq_true hh]
      refine decide_eq_false fun q => ?_
      by_cases h0 : digitsVal r = 0
      · rw [h0] at q
        have e : (strOf (-((0 : Nat) : Int))).cps.toList = [48] := by decide +kernel
        rw [e] at q; cases q
      · rw [strOf_neg (by omega)] at q
        have q2 : TL.numL (digitsVal r) = r := (List.cons.inj q).2
        rcases numL_head (digitsVal r) with ⟨_, z⟩ | ⟨z, _⟩
        · exact h0 z
        · rw [q2] at z; exact z hh
    · rw [decide_eq_false hh]
      obtain ⟨c1, c2⟩ := canon _ r rfl ha h1 hh
      refine decide_eq_true ?_
      rw [strOf_neg c2, c1]
  · rw [if_neg hn]
    rw [figs_pos hn] at h1 h2 ⊢
    have ha := digits_all h2
    rw [strOf_nat]
    by_cases hh : z.cps.toList.head? = some 48
    · rw [decide_eq_true hh, Bool.not_true, Bool.or_false]
      by_cases hz : z.cps.toList = [48]
      · rw [hz]; decide +kernel
      · rw [decide_eq_false hz]
        refine decide_eq_false fun q => ?_
        rcases numL_head (digitsVal z.cps.toList) with ⟨y, _⟩ | ⟨y, _⟩
        · rw [q] at y; exact hz y
        · rw [q] at y; exact y hh
    · rw [decide_eq_false hh, Bool.not_false, Bool.or_true]
      exact decide_eq_true (canon _ _ rfl ha h1 hh).1
theorem figs_len (z : Str) : (figsOf z).length ≤ z.length := by
  unfold figsOf
  split
  · rw [← len_codes, ← len_codes z, cut_drop, List.length_drop]
    omega
  · exact Nat.le_refl _
theorem figs_sign {z : Str} (h2 : (figsOf z).cps.toList.all isDig = true) : ∀ c ∈ z.cps.toList, c = 45 ∨ (48 ≤ c ∧ c ≤ 57) := by
  intro c hc
  by_cases hn : z.cps.toList.head? = some 45
  · obtain ⟨r, hr⟩ := head45 hn
    rw [figs_neg hr] at h2
    rw [hr] at hc
    rcases List.mem_cons.mp hc with rfl | hc
    · exact .inl rfl
    · exact .inr (digits_all h2 c hc)
  · rw [figs_pos hn] at h2
    exact .inr (digits_all h2 c hc)
/-- int(z) of figures -/
theorem s_cF {K : PySem.W.Frag} {H : Hp} {Q : VK} {z : Str} (h1 : (figsOf z).cps.toList ≠ []) (h2 : (figsOf z).cps.toList.all isDig = true) (h3 : (figsOf z).length ≤ 4000) (hz : z.length ≤ sizeLine)
    (hk : PySem.W.nsIn K cStatics "sys.int_max_str_digits" = some none) (h : Q (.int (valOf z)) H) : rIntU K [.str z] H Q := by
  have hr := read_figs h1 h2 h3
  by_cases hl : z.length ≤ 640
  · exact s_cT hr hl h
  · refine .inr (.inr ⟨z, _, rfl, hr, hk, fun q => hl ?_, hz, h⟩)
    obtain ⟨e1, e2⟩ := numText_signs (figs_sign h2)
    have : numSeenOf z = z.cps.toList := by first | exact e2 | exact e1
    rw [this, len_codes] at q
    exact q
/-! the text of so many nines -/
theorem repS_codes (c n : Nat) : (repS ⟨#[c]⟩ n).cps.toList = List.replicate n c := by
  have h : ∀ (k : Nat) (a : Array Nat), ((List.replicate k #[c]).foldl (· ++ ·) a).toList = a.toList ++ List.replicate k c := by
    intro k
    induction k with
    | zero => intro a; simp
    | succ k ih => intro a; rw [List.replicate_succ, List.foldl_cons, ih]; simp [List.replicate_succ]
  show ((List.replicate n #[c]).foldl (· ++ ·) #[]).toList = _
  rw [h]; simp
theorem nines_val (n : Nat) : digitsVal (List.replicate n 57) + 1 = 10 ^ n := by
  induction n with
  | zero => rfl
  | succ n ih => rw [List.replicate_succ', val_snoc, Nat.pow_succ]; omega
end L3
end
section
namespace L3
open PySem PySem.Spec PyProof.Rows L2 LamX
/-! ## what is no pen -/
theorem pen_heap (a c : Addr) (n : Nat) : ∃ h : Heap, (∃ (spot rest : Int) (t u : Tok) (k : Nat), h.get? a = some { cls := .type "list", data := .seq #[.ref c, .int spot t, .int rest u] k } ∧ 0 ≤ spot ∧ spot ≤ n) ∧
    ∀ b o, h.get? b = some o → o.cls = .type "list" ∧ ∀ vs, o.data ≠ .fields vs := by
  let ob : Obj := { cls := .type "list", data := .seq #[.ref c, .int 0 0, .int 0 0] 0 }
  refine ⟨{ objs := Array.replicate (a + 1) ob }, ⟨0, 0, 0, 0, 0, ?_, by decide, by omega⟩, fun b o e => ?_⟩
  · unfold Heap.get?
    have : (Array.replicate (a + 1) ob)[a]? = some ob := by simp
    show (match (Array.replicate (a + 1) ob)[a]? with | some ⟨_, _, .freed, _⟩ => none | o => o) = _
    rw [this]
  · unfold Heap.get? at e
    have q : (Array.replicate (a + 1) ob)[b]? = none ∨ (Array.replicate (a + 1) ob)[b]? = some ob := by
      by_cases h : b < a + 1
      · right; simp [h]
      · left; exact Array.getElem?_eq_none (by rw [Array.size_replicate]; exact Nat.le_of_not_lt h)
    change (match (Array.replicate (a + 1) ob)[b]? with | some ⟨_, _, .freed, _⟩ => none | o => o) = some o at e
    rcases q with q | q
    · rw [q] at e; cases e
    · rw [q] at e; cases e
      exact ⟨rfl, fun vs z => nomatch z⟩
theorem fnV_pen {f a c : Addr} {n : Nat} : FnV f ≠ PenO a c n := fun e => by
  unfold FnV PenO at e
  injection e with e
  obtain ⟨h, h1, h2⟩ := pen_heap a c n
  rw [← congrFun e h] at h1
  obtain ⟨o, g1, g2⟩ := h1
  have := (h2 _ _ g1).1
  rw [g2] at this
  exact absurd this (by decide)
theorem codeO_pen {k a c : Addr} {n : Nat} {q : Str} : CodeO k q ≠ PenO a c n := fun e => by
  unfold CodeO PenO at e
  injection e with e
  obtain ⟨h, h1, h2⟩ := pen_heap a c n
  rw [← congrFun e h] at h1
  obtain ⟨o, vs, _, g1, g2, _⟩ := h1
  exact (h2 _ _ g1).2 vs g2
/-- the pen stands, so do the tables -/
structure Wo (T : List (Addr × Str)) (H : Hp) (a : Addr) (n : Nat) : Prop where
  pen : Pen H a n
  tabs : Tabs T H
/-- an object that is told otherwise than a pen does not lie at the pen's place -/
theorem Pen.ne {H : Hp} {a : Addr} {n : Nat} (p : Pen H a n) {b : Addr} {o : HO} (h : H b = some o) (d : ∀ c n, o ≠ PenO a c n) : b ≠ a := fun z => by
  obtain ⟨c, ns, ha, _⟩ := p
  rw [z, ha] at h
  exact d c n (Option.some.inj h).symm
theorem Wo.keep {T : List (Addr × Str)} {H H' : Hp} {a : Addr} {n m : Nat} (w : Wo T H a n) (p : Pen H' a m) (k : ∀ b o, b ≠ a → H b = some o → H' b = some o) : Wo T H' a m := by
  refine ⟨p, fun t ht => ?_⟩
  obtain ⟨ps, h1, h2, h3⟩ := w.tabs t ht
  refine ⟨ps, k _ _ (w.pen.ne h1 fun c n z => by unfold PenO at z; cases z) h1, h2, fun pos cv hc => ?_⟩
  obtain ⟨c, e1, e2⟩ := h3 pos cv hc
  exact ⟨c, e1, k _ _ (w.pen.ne e2 fun _ _ => codeO_pen) e2⟩
theorem Wo.ex {T : List (Addr × Str)} {H H' : Hp} {a : Addr} {n : Nat} (w : Wo T H a n) (k : Ex H H') : Wo T H' a n := by
  obtain ⟨c, ns, h1, h2, h3⟩ := w.pen
  exact ⟨⟨c, ns, k _ _ h1, k _ _ h2, h3⟩, w.tabs.ext k⟩
theorem Xt.refl (a : Addr) (H : Hp) : Xt a H H := fun _ _ _ _ h => h
theorem Xt.trans {a : Addr} {H H1 H2 : Hp} (x : Xt a H H1) (y : Xt a H1 H2) : Xt a H H2 := fun b o h1 h2 h => y b o h1 h2 (x b o h1 h2 h)
theorem Xt.of {a : Addr} {H H' : Hp} (k : ∀ b o, b ≠ a → H b = some o → H' b = some o) : Xt a H H' := fun b o h _ e => k b o h e
theorem Ex.xt {a : Addr} {H H' : Hp} (k : Ex H H') : Xt a H H' := fun b o _ _ e => k b o e
/-! ## the pen is made -/
def tPenNew (t : TS) : TS := fun D σ H => t { D with rt := fun v H' => ∃ p c rest ns, v = .ref p ∧ H' p = some (.lst [.ref c, .int 0, .int rest]) ∧ H' c = some (.lst ((ns : List Int).map V.int)) ∧ c ≠ p ∧ D.rt v (upd (upd H' p (PenO p c 0)) c (ScO c ns)) } σ H
theorem pss_penNew {X : Cx} {sts : List Stmt} {t : TS} (h : PSs X sts t) : PSs X sts (tPenNew t) := by
  refine ⟨fun pins s σ H D I hw => thn (h.run pins s σ H _ I hw) fun f s' q => ?_⟩
  match f, q with
  | .next, q => exact q
  | .brk, q => exact q
  | .cont, q => exact q
  | .ret u, q =>
    obtain ⟨v, σ', H', I', r, p, c, rest, ns, e, hp, hc, hn, z⟩ := q
    exact ⟨v, σ', _, Inv.scClose (Inv.penClose I' hp (Int.le_refl 0) (Int.le_refl 0)) (by rw [upd_ne hn]; exact hc), r, z⟩
def spPen (K : PySem.W.Frag) : Sp := fun vs H Q _ => ∃ a ns, vs = [.ref a] ∧ SqL K H a (ns.map V.int) ∧ (ns : List Int).length ≤ 63 ∧ ∀ p H', H p = none → Ex H H' → Pen H' p 0 → Q (.ref p) H'
def spPick : Sp := fun vs H Q _ => ∃ a l n xs, vs = [.ref a, .ref l] ∧ H l = some (.lst xs) ∧ xs ≠ [] ∧ xs.length ≤ 100000 ∧ Pen H a n ∧ n < lim ∧
  ∀ v H', v ∈ xs → Pen H' a (n + 1) → (∀ b o, b ≠ a → H b = some o → H' b = some o) → Q v H'
end L3
end
section
namespace L3
open PySem PySem.Spec PyProof.Rows L2
variable {K : PySem.W.Frag} {σ : L2.St} {H : Hp} {te : TE} {Q : VK}
/-- a comprehension over a range whose turns draw -/
theorem lcPen {a : Addr} {n N q j : Nat} {vs : List Nat} (p : V → Prop) (hp : Pen H a n) (hN : N < sizeLine) (hw : ∀ x, wipe ((wipe σ vs).set j (some x)) vs = wipe σ vs)
    (he : ∀ (i : Nat) (H' : Hp) (m : Nat) (R : VK), i < N → (∀ b o, b ≠ a → H b = some o → H' b = some o) → Pen H' a m → m ≤ n + q * i →
      (∀ y H2 m2, (∀ b o, b ≠ a → H' b = some o → H2 b = some o) → Pen H2 a m2 → m2 ≤ m + q → p y → R y H2) → te ((wipe σ vs).set j (some (.int (0 + i)))) H' R)
    (k : ∀ D H2 m ys, H D = none → (∀ b o, b ≠ a → H b = some o → H2 b = some o) → Pen H2 a m → m ≤ n + q * N → ys.length = N → (∀ y ∈ ys, p y) → H2 D = some (.lst ys) → Q (.ref D) H2) :
    LC (Itr 0 N) (gName j) tYes te vs σ H Q := by
  intro Dl hD
  have hDa : Dl ≠ a := by
    rintro rfl
    obtain ⟨c, ns, z, _⟩ := hp
    rw [hD] at z; cases z
  have pu : ∀ {H : Hp} {m : Nat} {o : HO}, Pen H a m → H Dl = none ∨ (∃ xs, H Dl = some (.lst xs)) → Pen (upd H Dl o) a m := by
    rintro H m o ⟨c, ns, z1, z2, z3⟩ hd
    refine ⟨c, ns, by rw [upd_ne (Ne.symm hDa)]; exact z1, ?_, z3⟩
    rw [upd_ne ?_]; exact z2
    rintro rfl
    rcases hd with hd | ⟨xs, hd⟩ <;> rw [hd] at z2 <;> (try unfold ScO at z2) <;> cases z2
  refine lc_it walk_range (fun i H' => (∃ m, Pen H' a m ∧ m ≤ n + q * i) ∧ (∀ b o, b ≠ a → H b = some o → H' b = some o) ∧ ∃ ys, H' Dl = some (.lst ys) ∧ ys.length = i ∧ ∀ y ∈ ys, p y)
    ⟨⟨n, pu hp (.inl hD), by omega⟩, fun b o _ hb => by rw [upd_ne (ne_of_none hb hD)]; exact hb, [], upd_same, rfl, by simp⟩ (fun _ _ _ _ => trivial) ?_ ?_
  · rintro i x H1 H2 hi ⟨⟨m, p1, p2⟩, k1, ys, l1, l2, l3⟩ ⟨rfl, rfl⟩
    refine ⟨hw _, ?_⟩
    refine he i H2 m _ hi k1 p1 p2 fun y H3 m3 k3 p3 hm hy => ?_
    have l4 := k3 _ _ hDa l1
    refine ⟨ys, l4, by omega, ⟨m3, pu p3 (.inr ⟨_, l4⟩), by rw [Nat.mul_succ]; omega⟩, fun b o hb ho => ?_, ys ++ [y], upd_same, by simp [l2], ?_⟩
    · rw [upd_ne (ne_of_none ho hD)]; exact k3 _ _ hb (k1 _ _ hb ho)
    · intro z hz
      rcases List.mem_append.mp hz with hz | hz
      · exact l3 z hz
      · rw [List.mem_singleton.mp hz]; exact hy
  · rintro H1 ⟨⟨m, p1, p2⟩, k1, ys, l1, l2, l3⟩
    exact k _ _ _ _ hD k1 p1 p2 l2 l3 l1
end L3
end
section
namespace L3
open PySem PySem.Spec PyProof.Rows L2
variable {K : PySem.W.Frag} {σ : L2.St} {H : Hp} {te : TE} {Q : VK}
/-! repr of a list of plain values -/
def flatD : V → PyData
  | .int i => .int i
  | .bl b => .bool b
  | .str z => .str z
  | _ => .none
def fitF : V → Bool
  | .int i => decide (i.natAbs.log2 < 1920)
  | .bl _ => true
  | .non => true
  | _ => false
theorem len_app (a b : Str) : (a ++ b).length = a.length + b.length := by
  rw [← len_codes, ← len_codes, ← len_codes]
  show (a.cps ++ b.cps).toList.length = _
  rw [Array.toList_append, List.length_append]
theorem textFrom_ub : ∀ (ts : List Str) (k : Nat) (acc : Str), (textFrom k acc ts).length ≤ acc.length + (ts.map fun t => t.length + 2).sum
  | [], k, acc => Nat.le_refl _
  | t :: r, k, acc => by
    have := textFrom_ub r (k + 1) (acc ++ (if k > 0 then ", " else "" : String) ++ t)
    have h2 : (Str.ofString (if k > 0 then ", " else "" : String)).length ≤ 2 := by split <;> decide
    rw [len_app, len_app] at this
    rw [List.map_cons, List.sum_cons]
    exact Nat.le_trans this (by omega)
theorem listText_ub (ts : List Str) : (listText ts).length ≤ 2 + (ts.map fun t => t.length + 2).sum := by
  unfold listText
  rw [len_app]
  have := textFrom_ub ts 0 "["
  have e1 : (Str.ofString "[").length = 1 := by decide
  have e2 : (Str.ofString "]").length = 1 := by decide
  omega
theorem strOf_len {i : Int} {k : Nat} (hk : 0 < k) (h : i.natAbs < 10 ^ k) : (strOf i).length ≤ k + 1 := by
  by_cases h0 : 0 ≤ i
  · obtain ⟨m, rfl⟩ := Int.eq_ofNat_of_zero_le h0
    have e := strOf_nat m
    have hl := TL.numL_len (n := m) (k := k) hk (by simpa using h)
    rw [← len_codes, e]; omega
  · obtain ⟨m, rfl⟩ : ∃ m : Nat, i = -(m : Int) := ⟨i.natAbs, by omega⟩
    have e := strOf_neg (m := m) (by omega)
    have hl := TL.numL_len (n := m) (k := k) hk (by simpa using h)
    rw [← len_codes, e, List.length_cons]; omega
theorem log_big {n : Nat} (h : n.log2 < 1920) : n < 10 ^ 1000 := by
  by_cases h0 : n = 0
  · rw [h0]; exact Nat.pow_pos (by decide)
  · rw [Nat.log2_lt h0] at h
    refine Nat.lt_of_lt_of_le h ?_
    have e : 2 ^ 1920 = (2 ^ 96) ^ 20 := by rw [← Nat.pow_mul]
    have e' : 10 ^ 1000 = (10 ^ 50) ^ 20 := by rw [← Nat.pow_mul]
    rw [e, e']
    exact Nat.pow_le_pow_left (by decide) 20
theorem fit_shown {x : V} (h : fitF x = true) : (flatD x).shown.length ≤ 1001 := by
  cases x with
  | int i => exact strOf_len (by decide) (log_big (of_decide_eq_true h))
  | bl b => show (if b then Str.ofString "True" else "False").length ≤ _; cases b <;> decide
  | non => show (Str.ofString "None").length ≤ _; decide
  | _ => cases h
theorem fit_list : ∀ xs : List V, xs.all fitF = true → (PyData.shownAll (xs.map flatD)).length = xs.length ∧ ((PyData.shownAll (xs.map flatD)).map fun t => t.length + 2).sum ≤ 1003 * xs.length ∧ PyData.showableAll (xs.map flatD) = true ∧ PyData.depthAll (xs.map flatD) ≤ 1 ∧ DpAll K H xs (xs.map flatD)
  | [], _ => ⟨rfl, Nat.le_refl _, rfl, by decide, .nil⟩
  | x :: r, h => by
    rw [List.all_cons, Bool.and_eq_true] at h
    obtain ⟨h1, h2, h3, h4, h5⟩ := fit_list r h.2
    have hs := fit_shown h.1
    refine ⟨by show _ + 1 = _ + 1; rw [h1], ?_, ?_, ?_, ?_⟩
    · have e : ((PyData.shownAll ((x :: r).map flatD)).map fun t => t.length + 2).sum = ((flatD x).shown.length + 2) + ((PyData.shownAll (r.map flatD)).map fun t => t.length + 2).sum := by
        show List.sum (_ :: _) = _
        rw [List.sum_cons]
      rw [e, List.length_cons]
      omega
    · show ((flatD x).showable && _) = true
      rw [h3, Bool.and_true]
      cases x with
      | int i => exact h.1
      | bl b => rfl
      | non => rfl
      | _ => cases h.1
    · show max (flatD x).depth _ ≤ 1
      refine Nat.max_le.mpr ⟨?_, h4⟩
      cases x with
      | int i => exact Nat.zero_le _
      | bl b => exact Nat.zero_le _
      | non => exact Nat.zero_le _
      | _ => cases h.1
    · refine .cons ?_ h5
      cases x with
      | int i => exact .int i
      | bl b => exact .bl b
      | non => exact .non
      | _ => cases h.1
theorem s_reprF {p : Addr} {xs : List V} (hp : H p = some (.lst xs)) (hf : xs.all fitF = true) (hn : xs.length ≤ 1000) (h : Q (.str (PyData.list (xs.map flatD)).shown) H) : rRepr K [.ref p] H Q := by
  obtain ⟨h1, h2, h3, h4, h5⟩ := fit_list (K := K) (H := H) xs hf
  refine s_repr (.lst (.inl (.inl hp)) h5) h3 (by show _ + 1 ≤ _; omega) ?_ h
  show (listText (PyData.shownAll (xs.map flatD))).length ≤ _
  rw [sizeLine_eq]
  have := listText_ub (PyData.shownAll (xs.map flatD))
  omega
end L3
end
section
namespace L3
open PySem PySem.Spec PyProof.Rows L2
/-! ## an own error whose __init__ begins with super().__init__(text) -/
/-- what the written part says of the class C, its __init__ at f with the code object cda and the cell cc -/
structure SupF (P : Program) (K : PySem.W.Frag) (mg : Str → Option Value) (C f cda cc : Addr) (scope : Scope) : Prop where
  oex : OexC K C
  cell : ∃ cl cld csl, K.lookup cc = some ⟨cl, cld, .cell (some (.ref C)), csl⟩
  code : ∃ ccl cdd vs ccs file tf, K.lookup cda = some ⟨ccl, cdd, .fields vs, ccs⟩ ∧ vs[2]? = some (.str file tf) ∧ ((P.main.file : Str) == file) = true
  mro : PySem.W.mroIn K C (.ref C) = some true
  noS : mg "super" = none
  top : (P.main.scope.names.lookup ("super" : Str)).isSome = false
  opq : PySem.W.nsIn K cStatics "thirdparty.any" = some none
  sup : PySem.W.ks_superIn K C C "__init__" = some (some (.builtin "ValueError.__init__"))
  sub : PySem.W.subIn K (.ref C) (.type "ValueError") = some true
  sSup : scope.names.lookup ("super" : Str) = some .globalImplicit
  sCls : scope.names.lookup ("__class__" : Str) = some .free
def supF (qual : Str) (params : Arguments) (body : List Stmt) (scope : Scope) (cc cda : Addr) : NdefX.NF := ⟨"__init__", qual, params, body, scope, [("__class__", cc)], cda⟩
theorem okSup {P : Program} {w : World} {K : PySem.W.Frag} {mg : Str → Option Value} {base : Heap} {CX : CXT} {k : Nat} {C f cda cc : Addr} {qual msg : Str} {params : Arguments} {rest : List Stmt} {scope : Scope} {kV doc pm ct oc : Value} {an od : Option Addr} {osl : Array (Option Value)} {N ps : List Str} {sp : Sp}
    {p0 p1 p2 p3 p4 p5 : Pos} {j : Nat} {ar : Arg} {body : List Stmt}
    (hbd : body = .Expr (.Call (.Attribute (.Call (.Name "super" p0) [] [] p1) "__init__" p2) [.Constant (.str msg) j p3] [] p4) p5 :: rest)
    (lk : K.lookup f = some ⟨oc, od, .func (PySem.W.fnX "__init__" qual params body scope [("__class__", cc)] .none kV doc pm an (.ref cda) ct), osl⟩) (hcd : PySem.W.codeIn K (.ref cda) qual = true)
    (T : SupF P K mg C f cda cc scope) (S : NdefX.NScope N ps ["__class__"] scope) (hp : (params.posonlyargs ++ params.args).head? = some ar) (hps : ps.head? = some ar.arg) (hN0 : N[0]? = some ar.arg) (hna : scope.names.lookup ar.arg = some .local)
    (hev : ∀ env : Env, env.scope = scope → ∃ pl, eval (.Call (.Attribute (.Call (.Name "super" p0) [] [] p1) "__init__" p2) [.Constant (.str msg) j p3] [] p4) env = (do
      let ov ← attributeBase (.Call (.Name "super" p0) [] [] p1) "__init__" env (eval (.Call (.Name "super" p0) [] [] p1) env)
      standAt p2.atName
      let (f, first) ← holding [ov] (getMethod ov "__init__" pl)
      callWith p4 f first (backTo p4 (starEach [.Constant (.str msg) j p3] env)) []))
    (len : ∀ vs H Q E, sp vs H Q E → vs.length = ps.length)
    (run : ∀ (A : Around) (outer : List Env) (s : Shared) (H : Hp) (vs : List V) (Q : VK) (E : XK), Room k (A.deeper (NdefX.envF (supF qual params body scope cc cda) f s.heap.objs.size)) → sp vs H Q E →
      ∃ a ws, vs = .ref a :: ws ∧ H a = some (exo a C none) ∧ ∃ t, PSs (NdefX.ncx CX P w K mg base N (supF qual params body scope cc cda) f A outer s H E) rest t ∧ t { nx := fun _ H' => Q .non H', rt := Q } (NdefX.startF N vs [some (.ref C)]) H) :
    FnOk P w K mg base CX (k + 1) f (PySem.W.fnX "__init__" qual params body scope [("__class__", cc)] .none kV doc pm an (.ref cda) ct) ps sp := by
  refine ⟨len, fun A outer s H args us vs Q E hr e0 hb r h => ?_⟩
  have KX : K.In s.heap := e0.mod.kin.keeps fun b o e => (e0.bs b o e).1
  have lim : s.heap.NoLimit := e0.mod.nolimit.keeps fun b o e => (e0.bs b o e).1
  obtain ⟨cl, cld, csl, hcell⟩ := T.cell
  have hl := len _ _ _ _ h
  have cells : NdefX.CellsAt [("__class__", cc)] ["__class__"] [some (.ref C)] s.heap H := by
    have hkb := e0.mod.kin _ _ hcell
    have look : ∀ {y c}, List.lookup y [(("__class__" : Str), cc)] = some c → y = "__class__" ∧ c = cc := fun {y c} e => by
      rw [List.lookup_cons] at e
      by_cases hy : y == ("__class__" : Str)
      · rw [hy] at e; exact ⟨beq_iff_eq.mp hy, (Option.some.inj e).symm⟩
      · rw [Bool.eq_false_iff.mpr hy] at e; cases e
    refine ⟨rfl, fun y c e => ?_, fun x y c e1 e2 => (look e1).1.trans (look e2).1.symm, fun i y hy => ?_⟩
    · rw [(look e).2]
      exact ⟨(e0.bs _ _ hkb).2, _, _, KX _ _ hcell, rfl⟩
    · match i, hy with
      | 0, hy =>
        cases hy
        refine ⟨cc, rfl, fun v hv => ?_⟩
        cases hv
        exact ⟨_, rfl, _, KX _ _ hcell, rfl⟩
  refine PySem.ks_codeAny_call_defAt (fd := PySem.W.fnX "__init__" qual params body scope [("__class__", cc)] .none kV doc pm an (.ref cda) ct) (body := body) hr.depth (KX _ _ lk) rfl lim (PySem.W.codeRec_of KX hcd) rfl hb S.nocell (fun ⟨n, _⟩ hy => S.par n (List.of_mem_zip hy).1) (fun h₁ hns kp => ?_) S.co S.gen S.kind
  obtain ⟨a, ws, hvs, ha, t, ht, hq⟩ := run A outer s H vs Q E (hr.deeper _) h
  have I : Inv (NdefX.ncx CX P w K mg base N (supF qual params body scope cc cda) f A outer s H E) [] (NdefX.startF N vs [some (.ref C)]) H { s with heap := h₁, toks := s.toks + (ps.zip us).length } := NdefX.inv_startN S hr.hd e0 hl r cells hns kp
  subst hbd
  subst hvs
  obtain ⟨nm, q, Nn, bs, bm, sn, sub, ab, col, dd, k0, k1, k2, k3, k5, hC, hbm⟩ := T.oex.cls
  obtain ⟨ccl, cdd, vs2, ccs, file, tf, hcode, hv2, hfile⟩ := T.code
  obtain ⟨t1, hox⟩ := exo_at I.hok ha
  have K1 : K.In h₁ := I.kIn
  obtain ⟨u0, us', rfl, r0, r'⟩ : ∃ u0 us', us = u0 :: us' ∧ RelV (.ref a) u0 ∧ Vals ws us' := by
    cases r with
    | cons r0 r' => exact ⟨_, _, rfl, r0, r'⟩
  obtain rfl : u0 = Value.ref a := r0
  have hps0 : ps[0]? = some ar.arg := by rw [← List.head?_eq_getElem?]; exact hps
  have hv : (ps.zip (Value.ref a :: us')).reverse.lookup ar.arg = some (.ref a) := NdefX.zip_look (i := 0) (by
      have e := S.pre
      have nd := S.nd.sublist (List.take_sublist (ps.length + 1) N)
      rw [show (["__class__"] : List Str).length = 1 from rfl] at e
      rw [e] at nd
      exact (List.nodup_append.mp nd).1) hps0 rfl
  obtain ⟨pl, he⟩ := hev (NdefX.envF (supF qual params [] scope cc cda) f s.heap.objs.size) rfl
  refine PySem.ks_wpAt_execs_cons (PySem.ks_wpAt_Expr_any (PySem.ks_wpAt_MethodCall (pl := pl) ?_ he) (hi := I.quiet))
  refine PySem.ks_wpAt_super_base (f := f) (cc := cda) T.sSup T.sCls (by decide) rfl (K1 _ _ lk) rfl hp rfl (K1 _ _ hcode) rfl hv2 hfile T.top ?_
  have hD : h₁.get? C = some _ := K1 _ _ hC
  obtain ⟨mb, b1, b2⟩ := I.mod.blt
  refine PySem.W.ks_loadName_global S.kind T.sSup (Calls.loadGlobal_builtin (I.mod.glob.keeps I.bk) T.noS (b1.keeps I.bk) ((b2 _ (by decide)).trans (by rfl)) ⟨rfl, ?_⟩)
  refine wpAny_loadName_free S.kind T.sCls rfl ⟨_, K1 _ _ hcell, rfl⟩ ?_
  refine wpAny_loadName_local S.kind hna hns hv ?_
  refine PySem.ks_wpAny_isType_cls hD rfl ⟨rfl, ?_⟩
  refine PySem.ks_wpAny_call_super hD rfl hox rfl (fun c e => nomatch e) (PySem.W.looks_mroIn K1 T.mro) (fun h2 e2 kp2 => ?_)
  have I2 := I.kept (t' := s.toks + (ps.zip (Value.ref a :: us')).length) kp2
  have K2 : K.In h2 := I2.kIn
  have hcl : PySem.W.clsIn K C = some { name := nm, bases := bs, mro := .ref C :: bm, ns := Nn, qualname := q, hasDict := true, slotNames := sn, subclasses := sub, abstract := ab, collection := col, hasDel := false } := by unfold PySem.W.clsIn; rw [hC] <;> rfl
  have hsup := T.sup
  unfold PySem.W.ks_superIn at hsup
  rw [hcl] at hsup
  obtain ⟨t2, ho2⟩ := exo_at I2.hok ha
  have IA : PySem.W.InstAt h2 a _ C none := ⟨ho2, rfl, rfl, trivial⟩
  refine PySem.W.kxs_getMethod PySem.W.kxs_ValueError e2 (PySem.W.looks_opaque K2 T.opq) (l₀ := .ref C :: bm) (fun A Q E s k q => wpAny_bind ((PySem.W.looks_clsIn K2 hcl) A _ E s k (wpAny_pure q))) rfl K2 hsup (IA.type.andThen (PySem.W.looks_subIn K2 T.sub)) (PySem.W.ks_ne K2 IA hcl) (by decide) ?_
  have kp3 : ∀ b o, h2.get? b = some o → (h2.push (PySem.W.kxs_mw "ValueError.__init__" a)).get? b = some o := fun b o e => Heap.get?_push_of_some _ e
  have I3 := I2.kept (t' := s.toks + (ps.zip (Value.ref a :: us')).length + 1) kp3
  have hu : (h2.push (PySem.W.kxs_mw "ValueError.__init__" a)).get? h2.objs.size = some (PySem.W.kxs_mw "ValueError.__init__" a) := Heap.get?_push_at rfl rfl
  generalize h2.push (PySem.W.kxs_mw "ValueError.__init__" a) = h3 at I3 hu ⊢
  generalize h2.objs.size = u at hu ⊢
  refine PySem.W.kxs_callWith (i := "ValueError.__init__") (x := a) rfl (Calls.evalArgs_plain (Calls.spliced_cons (Calls.Constant_str (k := j) (pos := p3) (Calls.spliced_nil ⟨hu, ?_⟩))))
  have I4 := I3.tok (s.toks + (ps.zip (Value.ref a :: us')).length + 1 + 1)
  have K4 : K.In h3 := I4.kIn
  obtain ⟨t4, ho4⟩ := exo_at I4.hok ha
  refine wpAny_call (codeAny_of_tree ?_)
  show wpAny _ _ (callAny (.ref u) ⟨_, []⟩) _ _ _
  simp only [callAny]
  refine wpAny_bind (wpAny_load hu ?_)
  simp only [PySem.W.kxs_mw, show (Value.type "method-wrapper" == Value.type "method" || Value.type "method-wrapper" == Value.type "builtin_function_or_method" || Value.type "method-wrapper" == Value.type "method-wrapper") = true by decide, if_true]
  refine PySem.W.KFB.if_so (by decide) ?_
  refine wpAny_bind (PySem.W.check_bound_init F.excBase_ValueError.toExcCallFacts (K4 _ _ hC) ho4 rfl ?_)
  refine wpAny_bind (wpAny_pure (wpAny_pure ?_))
  refine ⟨plainId_quiet F.excBase_ValueError.init.plain _, codeAny_builtin F.excBase_ValueError.initEntry ?_⟩
  refine PySem.W.exc_init_tree (cls := .ref C) (t0 := t4) (dv := none) (c2 := .none) (c3 := .none) (b4 := .bool false) ho4 (by show 1 ≤ sizeLine; rw [sizeLine_eq]; decide) (fun h5 kp5 hx5 _ => ?_)
  have J := I4.write (t' := s.toks + (ps.zip (Value.ref a :: us')).length + 1 + 1) (x := a) (e := a) (o := exo a C none) (by rw [ha]; exact True.intro) (.inl rfl) kp5 ⟨_, hx5⟩ (exo_ok hx5)
  have eu : upd H a (exo a C none) = H := by
    funext b
    by_cases hb : b = a
    · rw [hb, upd_same, ha]
    · rw [upd_ne hb]
  rw [eu] at J
  refine PySem.wpAt_of_wpAny (wpAny_mono (ht.run [] _ _ H _ J hq) (fun fl s' hs => ?_) fun e s' hs => hs)
  cases fl with
  | ret u =>
    obtain ⟨v, σ', H', J', rv, q⟩ := hs
    exact ⟨v, H', J'.os, J'.bare, J'.base, J'.hok, rv, q⟩
  | next =>
    obtain ⟨σ', H', J', q⟩ := hs
    exact ⟨.non, H', J'.os, J'.bare, J'.base, J'.hok, rfl, q⟩
  | brk =>
    obtain ⟨_, _, _, q⟩ := hs
    exact False.elim q
  | cont =>
    obtain ⟨_, _, _, q⟩ := hs
    exact False.elim q
end L3
namespace L3
open PySem PySem.Spec PyProof.Rows L2
/-- one field, two fields, none -/
def spErr1 (C : Addr) (f : Str) : Sp := fun vs H Q _ => ∃ a v, vs = [.ref a, v] ∧ H a = some (exo a C none) ∧ ∀ dx, H dx = none → dx ≠ a → Q .non (upd (upd H dx (exd dx [(f, v)])) a (exo a C (some dx)))
def spErr2 (C : Addr) (f g : Str) : Sp := fun vs H Q _ => ∃ a v y, vs = [.ref a, v, y] ∧ H a = some (exo a C none) ∧ ∀ dx, H dx = none → dx ≠ a → Q .non (upd (upd (upd H dx (exd dx [(f, v)])) a (exo a C (some dx))) dx (exd dx [(g, y), (f, v)]))
abbrev stSup (msg : Str) (j : Nat) (p0 p1 p2 p3 p4 p5 : Pos) : Stmt := .Expr (.Call (.Attribute (.Call (.Name "super" p0) [] [] p1) "__init__" p2) [.Constant (.str msg) j p3] [] p4) p5
abbrev stFld (f x : Str) (q1 q2 q3 q4 : Pos) : Stmt := .Assign [.Attribute (.Name "self" q1) f q2] (.Name x q3) q4
section
variable {P : Program} {w : World} {K : PySem.W.Frag} {mg : Str → Option Value} {base : Heap} {CX : CXT} {C f cda cc : Addr} {qual msg x y g1 g2 : Str} {params : Arguments} {scope : Scope} {kV doc pm ct oc : Value} {an od : Option Addr} {osl : Array (Option Value)}
  {p0 p1 p2 p3 p4 p5 q1 q2 q3 q4 q5 q6 q7 q8 : Pos} {j : Nat} {ar : Arg} {body : List Stmt}
theorem okErr1 (hbd : body = [stSup msg j p0 p1 p2 p3 p4 p5, stFld g1 x q1 q2 q3 q4])
    (lk : K.lookup f = some ⟨oc, od, .func (PySem.W.fnX "__init__" qual params body scope [("__class__", cc)] .none kV doc pm an (.ref cda) ct), osl⟩) (hcd : PySem.W.codeIn K (.ref cda) qual = true)
    (T : SupF P K mg C f cda cc scope) (S : NdefX.NScope ["self", x, "__class__"] ["self", x] ["__class__"] scope) (hp : (params.posonlyargs ++ params.args).head? = some ar) (har : ar.arg = "self")
    (hev : ∀ env : Env, env.scope = scope → ∃ pl, eval (.Call (.Attribute (.Call (.Name "super" p0) [] [] p1) "__init__" p2) [.Constant (.str msg) j p3] [] p4) env = (do
      let ov ← attributeBase (.Call (.Name "super" p0) [] [] p1) "__init__" env (eval (.Call (.Name "super" p0) [] [] p1) env)
      standAt p2.atName
      let (f, first) ← holding [ov] (getMethod ov "__init__" pl)
      callWith p4 f first (backTo p4 (starEach [.Constant (.str msg) j p3] env)) []))
    (hx : (x == ("__debug__" : Str)) = false) (hx2 : (x == ("__classdict__" : Str)) = false) (n1 : PySem.W.findIn K (.ref C) g1 = some none) (hs : ∀ env : Env, env.scope = scope → swapsWith (.Name x q3) (some (.Attribute (.Name "self" q1) g1 q2)) q4.line env = pure false) :
    FnOk P w K mg base CX 1 f (PySem.W.fnX "__init__" qual params body scope [("__class__", cc)] .none kV doc pm an (.ref cda) ct) ["self", x] (spErr1 C g1) := by
  refine okSup hbd lk hcd T S hp (by rw [har]; rfl) (by rw [har]; rfl) (by rw [har]; exact S.par _ (by simp)) hev (fun vs H Q E h => ?_) (fun A outer s H vs Q E hr h => ?_)
  · obtain ⟨a, v, rfl, _⟩ := h; rfl
  · obtain ⟨a, v, rfl, ha, k⟩ := h
    refine ⟨a, _, rfl, ha, _, pss_one (ps_ost (pe_var (i := 0) rfl (.inl (S.par _ (by simp)))) (pe_var (i := 1) rfl (.inl (S.par _ (by simp))) hx hx2) (hs _ rfl)), ?_⟩
    refine ⟨v, rfl, .ref a, rfl, a, C, rfl, T.oex, n1, .inl ⟨ha, fun dx h1 h2 => ?_⟩⟩
    exact k dx h1 h2
theorem okErr2 (hbd : body = [stSup msg j p0 p1 p2 p3 p4 p5, stFld g1 x q1 q2 q3 q4, stFld g2 y q5 q6 q7 q8])
    (lk : K.lookup f = some ⟨oc, od, .func (PySem.W.fnX "__init__" qual params body scope [("__class__", cc)] .none kV doc pm an (.ref cda) ct), osl⟩) (hcd : PySem.W.codeIn K (.ref cda) qual = true)
    (T : SupF P K mg C f cda cc scope) (S : NdefX.NScope ["self", x, y, "__class__"] ["self", x, y] ["__class__"] scope) (hp : (params.posonlyargs ++ params.args).head? = some ar) (har : ar.arg = "self")
    (hev : ∀ env : Env, env.scope = scope → ∃ pl, eval (.Call (.Attribute (.Call (.Name "super" p0) [] [] p1) "__init__" p2) [.Constant (.str msg) j p3] [] p4) env = (do
      let ov ← attributeBase (.Call (.Name "super" p0) [] [] p1) "__init__" env (eval (.Call (.Name "super" p0) [] [] p1) env)
      standAt p2.atName
      let (f, first) ← holding [ov] (getMethod ov "__init__" pl)
      callWith p4 f first (backTo p4 (starEach [.Constant (.str msg) j p3] env)) []))
    (hx : (x == ("__debug__" : Str)) = false) (hx2 : (x == ("__classdict__" : Str)) = false) (hy : (y == ("__debug__" : Str)) = false) (hy2 : (y == ("__classdict__" : Str)) = false)
    (n1 : PySem.W.findIn K (.ref C) g1 = some none) (n2 : PySem.W.findIn K (.ref C) g2 = some none)
    (hs : ∀ env : Env, env.scope = scope → swapsWith (.Name x q3) (some (.Attribute (.Name "self" q1) g1 q2)) q4.line env = pure false) (hs2 : ∀ env : Env, env.scope = scope → swapsWith (.Name y q7) (some (.Attribute (.Name "self" q5) g2 q6)) q8.line env = pure false) :
    FnOk P w K mg base CX 1 f (PySem.W.fnX "__init__" qual params body scope [("__class__", cc)] .none kV doc pm an (.ref cda) ct) ["self", x, y] (spErr2 C g1 g2) := by
  refine okSup hbd lk hcd T S hp (by rw [har]; rfl) (by rw [har]; rfl) (by rw [har]; exact S.par _ (by simp)) hev (fun vs H Q E h => ?_) (fun A outer s H vs Q E hr h => ?_)
  · obtain ⟨a, v, y, rfl, _⟩ := h; rfl
  · obtain ⟨a, v, y', rfl, ha, k⟩ := h
    refine ⟨a, _, rfl, ha, _, pss_cons (ps_ost (pe_var (i := 0) rfl (.inl (S.par _ (by simp)))) (pe_var (i := 1) rfl (.inl (S.par _ (by simp))) hx hx2) (hs _ rfl))
      (pss_one (ps_ost (pe_var (i := 0) rfl (.inl (S.par _ (by simp)))) (pe_var (i := 2) rfl (.inl (S.par _ (by simp))) hy hy2) (hs2 _ rfl))), ?_⟩
    refine ⟨v, rfl, .ref a, rfl, a, C, rfl, T.oex, n1, .inl ⟨ha, fun dx h1 h2 => ?_⟩⟩
    refine ⟨y', rfl, .ref a, rfl, a, C, rfl, T.oex, n2, .inr ⟨dx, [(g1, v)], upd_same, ?_, (show 1 ≤ 900 by decide), ?_⟩⟩
    · rw [upd_ne h2]; exact upd_same
    · exact k dx h1 h2
end
end L3
end
section
namespace L3
open PySem PySem.Spec PyProof.Rows L2
/-! ## a caught error that is kept behind the suite -/
/-- at a: an error of the class cls, its dict at d -/
def ExV (a : Addr) (cls : Value) (d : Option Addr) : HO := .ext fun h => ∃ oe, h.get? a = some oe ∧ Zc cls d oe ∧ ∃ vs, oe.data = .fields vs
theorem exV_ok {P : Program} {w : World} {H : Hp} {h : Heap} {a : Addr} {cls : Value} {d : Option Addr} {oe : Obj} (e : h.get? a = some oe) (z : Zc cls d oe) (f : ∃ vs, oe.data = .fields vs) : ObjOk P w H h a (ExV a cls d) :=
  ⟨⟨oe, e, z, f⟩, ⟨_, e⟩, fun _ _ ⟨o, q, z, f⟩ k => ⟨o, k _ q, z, f⟩⟩
section
variable {X : Cx} {pins : List (Addr × Obj)} {σ : L2.St} {H : Hp} {s : Shared}
/-- an object that was not there at the entry may be told from now on -/
theorem Inv.track {a : Addr} {o : HO} (I : Inv X pins σ H s) (na : H a = none) (n0 : X.s_0.heap.get? a = none) (nL : a ≠ X.env.locals) (nC : ∀ x c, X.env.cells.lookup x = some c → c ≠ a) (nP : ∀ p ∈ X.pn ++ pins, p.1 ≠ a) (new : ObjOk X.prog X.w (upd H a o) s.heap a o) :
    Inv X pins σ (upd H a o) s := by
  have ne0 : ∀ b u, X.s_0.heap.get? b = some u → b ≠ a := fun b u e z => by rw [z, n0] at e; cases e
  refine ⟨I.ok, I.os, I.bare, ⟨I.base.keep, I.base.slot, fun b u e n hx => ?_, I.base.there, fun b xs e => ?_, fun b u v e => ?_, fun b ps e => ?_⟩, I.loc, I.cell, ?_, fun x c e => ?_, fun p hp => ?_, I.hok.laidN (fun _ _ q => q) na new, I.len⟩
  · rw [upd_ne (ne0 b u e)]; exact I.base.free b u e n hx
  · have q := I.base.tups b xs e
    rw [upd_ne (ne_of_none q na)]; exact q
  · have q := I.base.frzs b u v e
    rw [upd_ne (ne_of_none q na)]; exact q
  · obtain ⟨m, q⟩ := I.base.tbls b ps e
    exact ⟨m, by rw [upd_ne (ne_of_none q na)]; exact q⟩
  · rw [upd_ne (Ne.symm nL)]; exact I.free
  · rw [upd_ne (nC x c e)]; exact I.freeC x c e
  · obtain ⟨h1, h2, h3, h4, h5⟩ := I.pin p hp
    exact ⟨h1, by rw [upd_ne (nP p hp)]; exact h2, h3, h4, h5⟩
end
/-- what 'except x as n: m = n' wishes: the error stays in slot m, told behind the suite -/
def wNote (K : PySem.W.Frag) (n : Nat) (c : Value) (i m : Nat) (Wout : WX) (D : Ends) : WX := fun cls d σ H =>
  ∃ b, PySem.W.exmOne K cls c = some b ∧ (b = true → σ.length = n → ∀ a, H a = none → D.nx (((σ.set i (some (.ref a))).set m (some (.ref a))).set i none) (upd H a (ExV a cls d))) ∧ (b = false → Wout cls d σ H)
section
variable {X : Cx} {x n mN : Str} {c : Value} {i m : Nat} {body : List Stmt} {np pos pos' p1 p2 p3 : Pos} {tb : WX → TS} {Wout : WX}
theorem ps_try_note (hs : X.stack = X.env :: X.outer) (hf : X.env.frame = some X.env.locals) (hex : X.ex = []) (hN : X.N.Nodup) (hi : X.N[i]? = some n) (hln : X.env.kindOf n = some .local) (hm : X.N[m]? = some mN) (hlm : X.env.kindOf mN = some .local) (hc : Names X x c) (tk : Takes X Wout)
    (hsw : swapsWith (.Name n p2) (some (.Name mN p1)) p3.line X.env = pure false) (hnd : (n == ("__debug__" : Str)) = false) (hnc : (n == ("__classdict__" : Str)) = false)
    (hb : ∀ (W : WX) (pn : List (Addr × Obj)) (xe : Value → Shared → Prop), Takes (X.tr pn xe) W → PassesOwn (model X.prog X.w) X.A X.env xe → PSs (X.tr pn xe) body (tb W)) :
    PS X (.Try body [.ExceptHandler (some (.Name x np)) (some n) [.Assign [.Name mN p1] (.Name n p2) p3] pos'] [] [] pos) (fun D σ H => tb (wNote X.K X.N.length c i m Wout D) D σ H) := by
  refine ⟨fun pins s σ H D I h => ?_⟩
  have ok := I.ok
  have frE : X.A.frames = some (X.env :: X.outer) := by rw [ok.frames, hs]
  refine wpAny_Try_except ?_
  refine wpAny_mono ((hb (wNote X.K X.N.length c i m Wout D) (X.pn ++ pins) (fun e s1 => wpAny (model X.prog X.w) X.A (noteFrame e X.env) (fun _ s2 => wpAny (model X.prog X.w) X.A (setFlight e none) (fun _ s3 =>
    wpAny (model X.prog X.w) X.A (handleBy e X.env [.ExceptHandler (some (.Name x np)) (some n) [.Assign [.Name mN p1] (.Name n p2) p3] pos']) (SP X pins D) X.xe s3) X.xe s2) X.xe s1) (fun u s' xx => ?_) PassesOwn.looking).run [] s σ H D (I.toTry _) h) (fun f s1 hsp => ?_) (fun e s1 he => he)
  · obtain ⟨a, B, sI, pins', σ', H', cls, d, rfl, J', nb, up, sky, na, os, ag, b, hb1, hyes, hno⟩ := xx
    have J : Inv X pins σ' H' sI := J'.ofTry ok
    have skyE : Sky B (X.env :: X.outer) a (Zc cls d) X.env.locals s'.heap := by rw [← hs]; exact sky
    show wpAny (model X.prog X.w) X.A (noteFrame (.ref a) X.env) _ _ _
    refine Sky.land Zc.steady frE hf skyE fun h3 fl3 up3 => ?_
    have J3 : Inv X pins σ' H' { s' with heap := h3 } := J.landed nb fl3.1 (up.trans up3) os ag
    obtain ⟨oe3, vs3, he3, hz3, hd3⟩ := fl3.there
    have far : ∀ {h : Heap} {o : Obj} {vs : Array Value}, h.FunFrames B (X.env :: X.outer) → h.get? a = some o → o.data = .fields vs → a ∉ frs (X.env :: X.outer) := fun {h o vs} ff e dd hm => by
      obtain ⟨_, o', e', hnf⟩ := ff.mem hm
      rw [e] at e'; cases e'
      exact hnf _ dd
    have nfr := far fl3.2.2.1 he3 hd3
    have nL : a ≠ X.env.locals := fun z => nfr (List.mem_filterMap.mpr ⟨X.env, List.mem_cons_self, by rw [hf, z]⟩)
    have nF : a ∉ X.fs := fun hm => by
      obtain ⟨e, he, q⟩ := List.mem_filterMap.mp hm
      exact nfr (List.mem_filterMap.mpr ⟨e, List.mem_cons_of_mem _ he, q⟩)
    have nI : sI.heap.get? a = none := by
      cases e : sI.heap.get? a with
      | none => rfl
      | some o =>
        have q := nb a o e (by rw [hs]; exact nfr)
        rw [fl3.2.1] at q; cases q
    have n0 : X.s_0.heap.get? a = none := by
      cases e : X.s_0.heap.get? a with
      | none => rfl
      | some o =>
        obtain ⟨o', q⟩ := J.base.there a o e (by rw [hex]; exact fun z => nomatch z)
        rw [nI] at q; cases q
    have nC : ∀ y c, X.env.cells.lookup y = some c → c ≠ a := fun y c e z => by
      obtain ⟨v, o, q, _⟩ := J.cell y c e
      rw [z, nI] at q; cases q
    have nP : ∀ p ∈ X.pn ++ pins, p.1 ≠ a := fun p hp z => by
      have q := (J.pin p hp).1
      rw [z, nI] at q; cases q
    have S3 := J3.suite he3 hd3 na nL nF
    refine wpAny_handleBy_cons (codeAny_handlers_test ?_) (by intro q; cases q)
    have LT : PySem.W.Looks (model X.prog X.w) h3 (typeOf (.ref a)) cls := fun A Q E s k q => wpAny_typeOf_ref (k _ _ he3) (by rw [hz3.1]; exact q)
    have LM := PySem.W.exm_one (M := model X.prog X.w) (J3.kIn) LT hb1
    have test : ∀ {Q : Value → Shared → Prop} {E : Value → Shared → Prop}, Q c { s' with heap := h3 } → wpAny (model X.prog X.w) (X.A.mark (some (.ref a))) (eval (.Name x np) X.env) Q E { s' with heap := h3 } := fun {Q E} q => by
      obtain ⟨hg, hdbg, hm | ⟨hm, hv, hnn⟩⟩ := hc
      · exact ld_glob (X := X.suite a ((a, oe3) :: (X.pn ++ pins))) S3 hg hm q hdbg
      · exact ld_blt (X := X.suite a ((a, oe3) :: (X.pn ++ pins))) S3 hg hm hv q hnn hdbg
    refine test (LM.here ?_)
    cases b with
    | true =>
      refine codeAny_handlers_suite_as ?_
      refine HandSPX.lands_againZ fl3 fun h4 fl4 up4 => ?_
      have J4 : Inv X pins σ' H' { s' with heap := h4 } := J.landed nb fl4.1 ((up.trans up3).trans up4) os ag
      obtain ⟨oe4, vs4, he4, hz4, hd4⟩ := fl4.there
      have S4 := J4.suite he4 hd4 na nL nF
      refine store_ok (X := X.suite a ((a, oe4) :: (X.pn ++ pins))) (v := .ref a) S4 hN hi (.inl hln) rfl (fun s5 S5 => ?_) (.inr hln)
      have suiteP : PSs (X.suite a ((a, oe4) :: (X.pn ++ pins))) [.Assign [.Name mN p1] (.Name n p2) p3] (tAsg (tVar i) (gName m)) := pss_one (ps_set (i := m) hN hm (.inl hlm) (pe_var (i := i) hi (.inl hln) hnd hnc) hsw (.inr hlm))
      have hlt : i < σ'.length := by
        rw [J.len]
        exact (List.getElem?_eq_some_iff.mp hi).1
      refine wpAny_mono (suiteP.run [] s5 _ H' { nx := fun σ6 H6 => σ6 = (σ'.set i (some (.ref a))).set m (some (.ref a)) ∧ H6 = H', rt := fun _ _ => False, bk := fun _ _ => False, ct := fun _ _ => False } S5 ⟨.ref a, List.getElem?_set_self hlt, rfl, rfl⟩) (fun f s6 hsp => ?_) (fun _ _ z => False.elim z)
      cases f with
      | next =>
        obtain ⟨σ6, H6, S6, e6, e7⟩ := hsp
        subst e6
        subst e7
        have pin6 := S6.pin (a, oe4) (List.mem_append_left _ List.mem_cons_self)
        have U6 := S6.unsuite ok
        have J6 : Inv X ((a, oe4) :: pins) _ H6 s6 := U6.pins_of fun p hp => (List.mem_cons.mp hp).elim (fun z => by rw [z]; exact pin6) fun z => U6.pin p (List.mem_append_right _ z)
        refine gone_ok J6 hN hi hln fun s7 J7 => ?_
        have a7 := (J7.pin (a, oe4) (List.mem_append_right _ List.mem_cons_self)).1
        have J8 : Inv X pins _ H6 s7 := J7.pins_of fun p hp => J7.pin p (List.mem_append_right _ (List.mem_cons_of_mem _ hp))
        exact ⟨_, _, Inv.track J8 na n0 nL nC nP (exV_ok a7 hz4 ⟨_, hd4⟩), hyes rfl J.len a na⟩
      | brk =>
        obtain ⟨_, _, _, z⟩ := hsp
        exact False.elim z
      | cont =>
        obtain ⟨_, _, _, z⟩ := hsp
        exact False.elim z
      | ret u =>
        obtain ⟨_, _, _, _, _, z⟩ := hsp
        exact False.elim z
    | false =>
      show wpAny _ X.A (handleBy (.ref a) X.env []) _ _ _
      refine wpAny_handleBy_nil ?_
      obtain ⟨k1, k2, k3, oe, vs, Tt, oT, tq, he, hz, hd, h1, hr⟩ := id fl3
      unfold PySem.passOn
      refine wpAny_bind (wpAny_field he hd h1 ?_)
      rw [if_neg (show ¬ ((Value.ref Tt == Value.none) = true) from by simp)]
      have fin : wpAny (model X.prog X.w) X.A (setFlight (.ref a) X.env.frame) (fun _ s4 => wpAny (model X.prog X.w) X.A (throw (.ref a) : Sem Flow) (SP X pins D) X.xe s4) X.xe { s' with heap := h3 } := by
        rw [hf]
        refine HandSPX.setFlight_upZ fl3 fun h4 hh4 up4 => wpAny_throw (tk _ _ ?_)
        exact ⟨a, B, sI, pins, σ', H', cls, d, rfl, J, nb, (up.trans up3).trans up4, .inr (.inr (by rw [hs]; exact hh4)), na, os, ag, hno rfl⟩
      first
        | exact wpAny_bind (wpAny_pure (wpAny_bind fin))
        | exact wpAny_bind fin
  · cases f with
    | next =>
      obtain ⟨σ', H', J', q⟩ := hsp
      exact wpAny_execs_nil ⟨σ', H', J'.ofTry ok, q⟩
    | brk =>
      obtain ⟨σ', H', J', q⟩ := hsp
      exact ⟨σ', H', J'.ofTry ok, q⟩
    | cont =>
      obtain ⟨σ', H', J', q⟩ := hsp
      exact ⟨σ', H', J'.ofTry ok, q⟩
    | ret u =>
      obtain ⟨v, σ', H', J', r, q⟩ := hsp
      exact ⟨v, σ', H', J'.ofTry ok, r, q⟩
end
end L3
namespace L3
open PySem PySem.Spec PySem.Calls PyProof.Rows PySem.W
section
variable {prog : Program} {w : World} {A : Around} {E : Value → Shared → Prop} {s : Shared} {K : Frag} {x D : Addr} {ox : Obj} {od : Option Obj}
/-- the class of an error that has its dict -/
theorem cls_exc {Q : Option Value → Shared → Prop} (C : L2.ExcC K D) (X : K.In s.heap) (I : InstAt s.heap x ox D od) (hf : findObj K D od "__class__" = some (.bind (.builtin "getset_descriptor.__get__") (.builtin "object.__class__")))
    (h : Q (some (.ref D)) { s with toks := s.toks + 1 }) : wpAny (model prog w) A (getAttr? (.ref x) "__class__") Q E s := by
  obtain ⟨hp, g, d, t, os⟩ := s
  have L0 := I.type (M := model prog w)
  have L1 := looks_findIn (M := model prog w) X C.hg
  have L2 := looks_findIn (M := model prog w) X C.hk
  have L4 := looks_find (M := model prog w) X I hf
  have sub : Looks (model prog w) hp (isInstance (.ref x) (.type "BaseException")) true := L0.andThen (looks_subIn X C.hs)
  have z0 : (false && onTheHeap (Value.builtin "BaseException.__getattribute__")) = false := rfl
  have z2 : (Value.builtin "BaseException.__getattribute__" == Value.builtin "object.__getattribute__") = false := by decide +kernel
  have z1 : (onTheHeap (Value.ref D) && Value.builtin "BaseException.__getattribute__" == Value.builtin "object.__getattribute__") = false := by rw [z2]; rfl
  unfold getAttr? getAttrBy? getAttrBy
  refine wpAny_bind (wpAny_mkText (wpAny_bind (wpAny_attempt (wpAny_holding (wpAny_bind (L0.at (wpAny_bind (L1.at ?_))))))))
  show wpAny _ _ (if (onTheHeap (Value.ref D) && Value.builtin "BaseException.__getattribute__" == Value.builtin "object.__getattribute__") = true then _ else _) _ _ _
  rw [z1, if_neg Bool.false_ne_true]
  unfold getAttrByItsOwn hookBefore
  refine wpAny_bind ?_
  rw [if_pos (show onTheHeap (Value.ref D) = true from rfl)]
  refine L2.at ?_
  refine wpAny_bind (wpAny_attempt (wpAny_holding ?_))
  unfold callGetattribute
  rw [z0, if_neg Bool.false_ne_true]
  unfold boundAndCalled
  rw [PySem.F.excAttr_ValueError.ga.bind (.ref x)]
  refine wpAny_bind (wpAny_pure ?_)
  show wpAny _ _ (call (.builtin "BaseException.__getattribute__") [.ref x, .str "__class__" t]) _ _ _
  refine wpAny_call (codeAny_call_builtin PySem.F.excAttr_ValueError.ga.plain PySem.F.entry_bexc_ga ?_)
  refine @check_slot (model prog w) _ _ ⟨hp, g, d, t + 1, os⟩ "BaseException.__getattribute__" "BaseException" "__getattribute__" (.ref x) [.str "__class__" t] [] _ (by decide +kernel) (by decide +kernel) sub (PySem.F.args_bexc_ga (.ref x) (.str "__class__" t)) ?_
  unfold Builtin.«object.__getattribute__»
  refine wpAny_bind (wpAny_of_eq (a := ((Value.ref x : Value), [Value.str "__class__" t])) (by first | rfl | (simp only [slotArgs]; rfl)) ?_)
  refine wpAny_bind (wpAny_pure (wpAny_bind (L0.at (wpAny_bind (L4.at ?_)))))
  show wpAny _ _ (holding [Value.builtin "object.__class__"] (call (.builtin "getset_descriptor.__get__") [.builtin "object.__class__", .ref x, .ref D]) >>= ret) _ _ _
  refine wpAny_bind (wpAny_holding (wpAny_call (class_get (s := ⟨hp, g, d, t + 1, os⟩) (ox := ox) (od := od) X I C.hm ?_)))
  refine wpAny_pure ?_
  show wpAny _ _ (handedOut (.ref D)) _ _ _
  rw [handedOut_of (v := .ref D) rfl]
  first
    | exact wpAny_pure (wpAny_pure h)
    | exact wpAny_pure h
    | exact wpAny_pure (wpAny_bind (wpAny_pure (wpAny_pure h)))
theorem kit_exc (C : L2.ExcC K D) : KitX K (.ref x) (.ref D) (fun h => ∃ ox o, InstAt h x ox D (some o)) where
  ty := fun _ _ _ ⟨_, _, I⟩ => I.type
  it := fun _ _ X _ => by
    obtain ⟨cdD, hcD, _⟩ := any_some C.hd
    unfold clsIn at hcD
    split at hcD
    · rename_i c' d' cd' sl' ho
      exact fun A' Q' E' s' k q => by
        unfold isType loadHead
        exact wpAny_bind (wpAny_loadPart (k _ _ (X _ _ ho)) (wpAny_pure q))
    · cases hcD
  ne := (handS_kitx_exc (x := x) (ox := default) C.hg C.hk C.hs C.hd C.ha C.hn C.ht C.hm).ne
  ca := fun X ⟨_, o, I⟩ k => cls_exc C X I (by
    obtain ⟨cd, hc, _⟩ := any_some C.hd
    unfold findObj
    rw [hc, Option.bind_some, C.ha, Option.bind_some]
    simp [C.hn, C.ht]) k
end
end L3
namespace L3
open PySem PySem.Spec PyProof.Rows L2
theorem exV_at {P : Program} {w : World} {H : Hp} {h : Heap} {a : Addr} {cls : Value} {d : Option Addr} (hok : HOk P w H h) (e : H a = some (ExV a cls d)) : ∃ oe, h.get? a = some oe ∧ Zc cls d oe ∧ ∃ vs, oe.data = .fields vs :=
  (show ObjOk P w H h a (ExV a cls d) from hok a _ e).1
theorem exV_inst {P : Program} {w : World} {H : Hp} {h : Heap} {a C d : Addr} {fs : List (Str × V)} (hok : HOk P w H h) (e : H a = some (ExV a (.ref C) (some d))) (ed : H d = some (.xd fs)) :
    ∃ oe od mA, PySem.W.InstAt h a oe C (some od) ∧ h.get? d = some od ∧ h.Ns1 d mA ∧ (∀ f, RelO (fs.lookup f) (mA f)) ∧ ∀ n, PySem.W.lookIn n od = some (mA n) := by
  obtain ⟨oe, e1, z, vs, e2⟩ := exV_at hok e
  obtain ⟨mA, hns, hr⟩ := (show ObjOk P w H h d (.xd fs) from hok d _ ed)
  obtain ⟨od, ho, hl⟩ := lookIn_ns hns
  exact ⟨oe, od, mA, ⟨e1, z.1, by unfold PySem.W.notCls; rw [e2] <;> rfl, by rw [z.2]; exact ho⟩, ho, hns, hr, hl⟩
/-- isinstance of a kept error -/
def rIsiX (K : PySem.W.Frag) : List V → Hp → VK → Prop := fun xs H Q => rIsiA K xs H Q ∨ ∃ (a C d : Addr) (c : V) (u : Value) (fs : List (Str × V)) (b : Bool), xs = [.ref a, c] ∧ ClsV c u ∧ H a = some (ExV a (.ref C) (some d)) ∧ H d = some (.xd fs) ∧ ExcC K C ∧ PySem.W.kitOne K (.ref C) u = some b ∧ Q (.bl b) H
theorem callIsiX {X : Cx} : CallR X (.builtin "isinstance") (rIsiX X.K) := by
  intro pins s σ H xs us Q I r h
  rcases h with h | ⟨a, C, d, c, u, fs, b, rfl, k, ea, ed, T, e, q⟩
  · exact callIsi pins s σ H xs us Q I r h
  · obtain ⟨u1, u2, rfl, r1, r2⟩ := vals2 r
    have e2 := k.eq r2
    subst e2
    cases (show u1 = Value.ref a from r1)
    obtain ⟨oe, od, mA, J, _⟩ := exV_inst I.hok ea ed
    exact PySem.W.kia_one (kit_exc T) I.kIn ⟨oe, od, J⟩ e (fun z => nomatch z) fun tk => ⟨.bl b, H, I.tok tk, rfl, q⟩
/-- a field of a kept error -/
def tXfV (K : PySem.W.Frag) (n : Str) (te : TE) : TE := fun σ H Q => te σ H fun x H1 => ∃ (a C d : Addr) (fs : List (Str × V)) (v : V), x = .ref a ∧ H1 a = some (ExV a (.ref C) (some d)) ∧ H1 d = some (.xd fs) ∧ XfC K C ∧ PySem.W.findIn K (.ref C) n = some none ∧ fs.lookup n = some v ∧ Q v H1
theorem pe_xfV {X : Cx} {e : Expr} {te : TE} {pos : Pos} {n : Str} (he : PE X e te) (hb : attributeBase e n X.env (eval e X.env) = eval e X.env := by rfl) : PE X (.Attribute e n pos) (tXfV X.K n te) := by
  refine ⟨fun pins s σ H Q I h => ?_⟩
  refine attr_of hb (thn (he.run pins s σ H _ I h) fun u s1 hh => ?_)
  obtain ⟨x, H1, I1, rx, a, C, d, fs, v, rfl, ea, ed, T, hno, l, q⟩ := hh
  obtain rfl : u = Value.ref a := rx
  obtain ⟨oe, od, mA, J, _, _, hr, hl⟩ := exV_inst I1.hok ea ed
  obtain ⟨u, hu, ru⟩ := RelO.some_of (v := v) (o := mA n) (by rw [← l]; exact hr n)
  exact HandSPX.exc_get I1.kIn J T.ga T.gg T.exC (PySem.W.findObj_own T.hdC hno rfl (by rw [hl, hu])) (handed_of ru) ⟨v, H1, I1.tok _, ru, q⟩
end L3
end
section
namespace L3
open PySem PySem.Spec PySem.Calls PyProof.Rows PySem.W
section
variable {prog : Program} {w : World} {A : Around} {E : Value → Shared → Prop} {s : Shared} {K : Frag} {x y C f g : Addr} {ox oy : Obj} {od oe : Option Obj} {op : Operator} {T : String}
/-- both of one own class -/
theorem bin_same {Q : Value → Shared → Prop} (X : K.In s.heap) (I : InstAt s.heap x ox C od) (J : InstAt s.heap y oy C oe) (hc : selfFirst K C = true) (hs : findIn K (.ref C) (PySem.dunder op.info.2) = some (some (.ref f))) (hf : isFn K (.ref f) = true)
    (h : wpAny (model prog w) A (call (.ref f) [.ref x, .ref y]) (PySem.W.CmpBack Q) E s) : wpAny (model prog w) A (binaryOp1 op.info.2 (.ref x) (.ref y)) (fun r s' => ∃ v, r = some v ∧ Q v s') E s := by
  obtain ⟨cd, rest, hcd, hm⟩ := ksp_first hc
  rcases hi : op.info with ⟨sym, nm'⟩
  rw [hi] at hs
  dsimp only at hs
  have one := ksp_try X I hs hf h
  obtain ⟨hh, g, d, tt, os⟩ := s
  have L1 : Looks (model prog w) hh (typeOf (.ref x)) (.ref C) := I.type
  have L2 : Looks (model prog w) hh (typeOf (.ref y)) (.ref C) := J.type
  have L3 : Looks (model prog w) hh (fillsNumberSlot (.ref C) nm') true := fills_K X hcd hm hs
  have he : (Value.ref C == Value.ref C) = true := beq_self_eq_true _
  dsimp only
  unfold binaryOp1
  refine wpAny_bind (L1.at (wpAny_bind (L2.at (wpAny_bind (L3.at ?_)))))
  simp only [he, if_true]
  ksp_lk
  refine wpAny_mono one (fun r s' hr' => ?_) fun _ _ e => e
  obtain ⟨v, rfl, hq⟩ := hr'
  ksp_lk
  exact ⟨_, rfl, hq⟩
/-- an own one and one of a built-in type -/
theorem bin_own {b : Value} {fo ro rc : Option Value} {Q : Value → Shared → Prop} (X : K.In s.heap) (I : InstAt s.heap x ox C od) (Lb : Looks (model prog w) s.heap (typeOf b) (.type T)) (hc : selfFirst K C = true)
    (hs : findIn K (.ref C) (PySem.dunder op.info.2) = some (some (.ref f))) (hf : isFn K (.ref f) = true) (hr : findIn K (.ref C) (dunderR op.info.2) = some rc) (hp : rc = none ∨ ∃ g : Addr, rc = some (.ref g))
    (h1 : findIn K (.type T) (PySem.dunder op.info.2) = some fo) (h2 : findIn K (.type T) (dunderR op.info.2) = some ro) (hsub : subIn K (.type T) (.ref C) = some false)
    (h : wpAny (model prog w) A (call (.ref f) [.ref x, b]) (PySem.W.CmpBack Q) E s) : wpAny (model prog w) A (binaryOp1 op.info.2 (.ref x) b) (fun r s' => ∃ v, r = some v ∧ Q v s') E s := by
  obtain ⟨cd, rest, hcd, hm⟩ := ksp_first hc
  rcases hi : op.info with ⟨sym, nm'⟩
  rw [hi] at hs hr h1 h2
  dsimp only at hs hr h1 h2
  have one := ksp_try X I hs hf h
  obtain ⟨hh, g, d, tt, os⟩ := s
  have L1 : Looks (model prog w) hh (typeOf (.ref x)) (.ref C) := I.type
  have L2 := Lb
  have L3 : Looks (model prog w) hh (fillsNumberSlot (.ref C) nm') true := fills_K X hcd hm hs
  have L4 : Looks (model prog w) hh (fillsNumberSlot (.type T) nm') ((fo.isSome && !isSeqSlot fo) || (ro.isSome && !isSeqSlot ro)) := ksp_fillsT X h1 h2
  have L5 : Looks (model prog w) hh (isSubtype (.type T) (.ref C)) false := looks_subIn X hsub
  have L6 : Looks (model prog w) hh (numberSlotInPython (.ref C) nm') true := ksp_inPy X hs hr hp
  have L7 : Looks (model prog w) hh (numberSlotInPython (.type T) nm') false := Looks.of_pure rfl
  have L8 : Looks (model prog w) hh (typeLookup (.type T) (dunderR nm')) ro := looks_findIn X h2
  generalize ((fo.isSome && !isSeqSlot fo) || (ro.isSome && !isSeqSlot ro)) = right at L4
  have hne : (Value.ref C == Value.type T) = false := Bool.eq_false_iff.mpr fun q => by cases beq_iff_eq.mp q
  dsimp only
  unfold binaryOp1
  refine wpAny_bind (L1.at (wpAny_bind (L2.at (wpAny_bind (L3.at ?_)))))
  simp only [hne, Bool.false_eq_true, if_false]
  cases right with
  | false =>
    ksp_lk
    refine wpAny_mono one (fun r s' hr' => ?_) fun _ _ e => e
    obtain ⟨v, rfl, hq⟩ := hr'
    ksp_lk
    exact ⟨_, rfl, hq⟩
  | true =>
    ksp_lk
    refine wpAny_mono one (fun r s' hr' => ?_) fun _ _ e => e
    obtain ⟨v, rfl, hq⟩ := hr'
    ksp_lk
    exact ⟨_, rfl, hq⟩
/-- one of a built-in type that has no such number slot, then an own one -/
theorem bin_refl {b : Value} {fo ro : Option Value} {Q : Value → Shared → Prop} (X : K.In s.heap) (I : InstAt s.heap x ox C od) (Lb : Looks (model prog w) s.heap (typeOf b) (.type T)) (hc : selfFirst K C = true)
    (hs : findIn K (.ref C) (PySem.dunder op.info.2) = some (some (.ref g))) (hr : findIn K (.ref C) (dunderR op.info.2) = some (some (.ref f))) (hf : isFn K (.ref f) = true)
    (h1 : findIn K (.type T) (PySem.dunder op.info.2) = some fo) (h2 : findIn K (.type T) (dunderR op.info.2) = some ro) (hno : ((fo.isSome && !isSeqSlot fo) || (ro.isSome && !isSeqSlot ro)) = false)
    (h : wpAny (model prog w) A (call (.ref f) [.ref x, b]) (PySem.W.CmpBack Q) E s) : wpAny (model prog w) A (binaryOp1 op.info.2 b (.ref x)) (fun r s' => ∃ v, r = some v ∧ Q v s') E s := by
  obtain ⟨cd, rest, hcd, hm⟩ := ksp_first hc
  rcases hi : op.info with ⟨sym, nm'⟩
  rw [hi] at hs hr h1 h2
  dsimp only at hs hr h1 h2
  have one := ksp_try X I hr hf h
  obtain ⟨hh, g, d, tt, os⟩ := s
  have L1 : Looks (model prog w) hh (typeOf (.ref x)) (.ref C) := I.type
  have L2 := Lb
  have L3 : Looks (model prog w) hh (fillsNumberSlot (.ref C) nm') true := fills_K X hcd hm hs
  have L4 : Looks (model prog w) hh (fillsNumberSlot (.type T) nm') ((fo.isSome && !isSeqSlot fo) || (ro.isSome && !isSeqSlot ro)) := ksp_fillsT X h1 h2
  rw [hno] at L4
  have hne : (Value.type T == Value.ref C) = false := Bool.eq_false_iff.mpr fun q => by cases beq_iff_eq.mp q
  dsimp only
  unfold binaryOp1
  refine wpAny_bind (L2.at (wpAny_bind (L1.at (wpAny_bind (L4.at ?_)))))
  simp only [hne, Bool.false_eq_true, if_false]
  ksp_lk
  refine wpAny_mono one (fun r s' hr' => ?_) fun _ _ e => e
  obtain ⟨v, rfl, hq⟩ := hr'
  ksp_lk
  exact ⟨_, rfl, hq⟩
end
end L3
namespace L3
open PySem PySem.Spec PySem.Calls PyProof.Rows PySem.W
section
variable {M : Model} {A : Around} {E : Value → Shared → Prop} {s : Shared} {x : Addr} {ox : Obj} {i : Int} {b : Bool} {t : Tok} {P : Fin → Shared → Prop}
/-! a number's slot declines an own object -/
theorem dI_add (e : s.heap.get? x = some ox) (hd : ox.data = .plain) (h : P (.done (.ret .notImplemented)) s) : wpAny M A (Builtin.«int.__add__» ⟨[.int i t, .ref x], []⟩) P E s := by
  obtain ⟨hp, g, d, tk, os⟩ := s
  wp_walk
  try (rw [hd]; wp_walk)
  try (rw [hd]; wp_walk)
  exact h
theorem dI_sub (e : s.heap.get? x = some ox) (hd : ox.data = .plain) (h : P (.done (.ret .notImplemented)) s) : wpAny M A (Builtin.«int.__sub__» ⟨[.int i t, .ref x], []⟩) P E s := by
  obtain ⟨hp, g, d, tk, os⟩ := s
  wp_walk
  try (rw [hd]; wp_walk)
  try (rw [hd]; wp_walk)
  exact h
theorem dI_mul (e : s.heap.get? x = some ox) (hd : ox.data = .plain) (h : P (.done (.ret .notImplemented)) s) : wpAny M A (Builtin.«int.__mul__» ⟨[.int i t, .ref x], []⟩) P E s := by
  obtain ⟨hp, g, d, tk, os⟩ := s
  wp_walk
  try (rw [hd]; wp_walk)
  try (rw [hd]; wp_walk)
  exact h
theorem dI_floordiv (e : s.heap.get? x = some ox) (hd : ox.data = .plain) (h : P (.done (.ret .notImplemented)) s) : wpAny M A (Builtin.«int.__floordiv__» ⟨[.int i t, .ref x], []⟩) P E s := by
  obtain ⟨hp, g, d, tk, os⟩ := s
  wp_walk
  try (rw [hd]; wp_walk)
  try (rw [hd]; wp_walk)
  exact h
theorem dI_mod (e : s.heap.get? x = some ox) (hd : ox.data = .plain) (h : P (.done (.ret .notImplemented)) s) : wpAny M A (Builtin.«int.__mod__» ⟨[.int i t, .ref x], []⟩) P E s := by
  obtain ⟨hp, g, d, tk, os⟩ := s
  wp_walk
  try (rw [hd]; wp_walk)
  try (rw [hd]; wp_walk)
  exact h
theorem dB_add (e : s.heap.get? x = some ox) (hd : ox.data = .plain) (h : P (.done (.ret .notImplemented)) s) : wpAny M A (Builtin.«int.__add__» ⟨[.bool b, .ref x], []⟩) P E s := by
  obtain ⟨hp, g, d, tk, os⟩ := s
  wp_walk
  try (rw [hd]; wp_walk)
  try (rw [hd]; wp_walk)
  exact h
theorem dB_sub (e : s.heap.get? x = some ox) (hd : ox.data = .plain) (h : P (.done (.ret .notImplemented)) s) : wpAny M A (Builtin.«int.__sub__» ⟨[.bool b, .ref x], []⟩) P E s := by
  obtain ⟨hp, g, d, tk, os⟩ := s
  wp_walk
  try (rw [hd]; wp_walk)
  try (rw [hd]; wp_walk)
  exact h
theorem dB_mul (e : s.heap.get? x = some ox) (hd : ox.data = .plain) (h : P (.done (.ret .notImplemented)) s) : wpAny M A (Builtin.«int.__mul__» ⟨[.bool b, .ref x], []⟩) P E s := by
  obtain ⟨hp, g, d, tk, os⟩ := s
  wp_walk
  try (rw [hd]; wp_walk)
  try (rw [hd]; wp_walk)
  exact h
theorem dB_floordiv (e : s.heap.get? x = some ox) (hd : ox.data = .plain) (h : P (.done (.ret .notImplemented)) s) : wpAny M A (Builtin.«int.__floordiv__» ⟨[.bool b, .ref x], []⟩) P E s := by
  obtain ⟨hp, g, d, tk, os⟩ := s
  wp_walk
  try (rw [hd]; wp_walk)
  try (rw [hd]; wp_walk)
  exact h
theorem dB_mod (e : s.heap.get? x = some ox) (hd : ox.data = .plain) (h : P (.done (.ret .notImplemented)) s) : wpAny M A (Builtin.«int.__mod__» ⟨[.bool b, .ref x], []⟩) P E s := by
  obtain ⟨hp, g, d, tk, os⟩ := s
  wp_walk
  try (rw [hd]; wp_walk)
  try (rw [hd]; wp_walk)
  exact h
end
section
variable {prog : Program} {w : World} {A : Around} {E : Value → Shared → Prop} {s : Shared} {K : Frag} {x y C f g : Addr} {ox oy : Obj} {od oe : Option Obj} {op : Operator} {T : String}
/-- a number, then an own object -/
theorem bin_reflN {a : Value} {Q : Value → Shared → Prop} (X : K.In s.heap) (I : InstAt s.heap x ox C od) (La : Looks (model prog w) s.heap (typeOf a) (.type T)) (hc : selfFirst K C = true)
    (hs : findIn K (.ref C) (PySem.dunder op.info.2) = some (some (.ref g))) (hr : findIn K (.ref C) (dunderR op.info.2) = some (some (.ref f))) (hf : isFn K (.ref f) = true)
    (hfl : fillsNumberSlot (.type T) op.info.2 = pure true) (hsub : subIn K (.ref C) (.type T) = some false)
    (hdec : ∀ (Q : Option Value → Shared → Prop), Q none s → wpAny (model prog w) A (tryMethod a (PySem.dunder op.info.2) (.ref x)) Q E s)
    (h : wpAny (model prog w) A (call (.ref f) [.ref x, a]) (PySem.W.CmpBack Q) E s) : wpAny (model prog w) A (binaryOp1 op.info.2 a (.ref x)) (fun r s' => ∃ v, r = some v ∧ Q v s') E s := by
  obtain ⟨cd, rest, hcd, hm⟩ := ksp_first hc
  rcases hi : op.info with ⟨sym, nm'⟩
  rw [hi] at hs hr hfl hdec
  dsimp only at hs hr hfl hdec
  have one := ksp_try X I hr hf h
  obtain ⟨hh, g, d, tt, os⟩ := s
  have L1 : Looks (model prog w) hh (typeOf (.ref x)) (.ref C) := I.type
  have L2 := La
  have L3 : Looks (model prog w) hh (fillsNumberSlot (.ref C) nm') true := fills_K X hcd hm hs
  have L4 : Looks (model prog w) hh (fillsNumberSlot (.type T) nm') true := Looks.of_pure hfl
  have L5 : Looks (model prog w) hh (isSubtype (.ref C) (.type T)) false := looks_subIn X hsub
  have L7 : Looks (model prog w) hh (numberSlotInPython (.type T) nm') false := Looks.of_pure rfl
  have hne : (Value.type T == Value.ref C) = false := Bool.eq_false_iff.mpr fun q => by cases beq_iff_eq.mp q
  dsimp only
  unfold binaryOp1
  refine wpAny_bind (L2.at (wpAny_bind (L1.at (wpAny_bind (L4.at ?_)))))
  simp only [hne, Bool.false_eq_true, if_false]
  ksp_lk
  refine hdec _ ?_
  ksp_lk
  refine wpAny_mono one (fun r s' hr' => ?_) fun _ _ e => e
  obtain ⟨v, rfl, hq⟩ := hr'
  ksp_lk
  exact ⟨_, rfl, hq⟩
theorem bin_of1 {a b : Value} {Q : Value → Shared → Prop} (h : wpAny (model prog w) A (binaryOp1 op.info.2 a b) (fun r s' => ∃ v, r = some v ∧ Q v s') E s) : wpAny (model prog w) A (binaryOp op a b) Q E s := by
  rcases hi : op.info with ⟨sym, nm'⟩
  rw [hi] at h
  simp only [binaryOp, hi]
  refine wpAny_holding (wpAny_bind (wpAny_mono h (fun r s' hr' => ?_) fun _ _ e => e))
  obtain ⟨v, rfl, hq⟩ := hr'
  exact wpAny_pure hq
theorem inp_of1 {a b ta : Value} {Q : Value → Shared → Prop} (L : Looks (model prog w) s.heap (typeOf a) ta) (Lf : Looks (model prog w) s.heap (fillsInplaceSlot ta op.info.2 (op == .Add)) false)
    (h : wpAny (model prog w) A (binaryOp1 op.info.2 a b) (fun r s' => ∃ v, r = some v ∧ Q v s') E s) : wpAny (model prog w) A (inplaceOp op a b) Q E s := by
  obtain ⟨hh, g, d, tt, os⟩ := s
  unfold inplaceOp
  refine wpAny_holding ?_
  refine wpAny_bind (L.at (wpAny_bind (Lf.at ?_)))
  rw [if_neg (by decide)]
  refine wpAny_bind (wpAny_mono h (fun r s' hr' => ?_) fun _ _ e => e)
  obtain ⟨v, rfl, hq⟩ := hr'
  exact wpAny_pure hq
theorem noIn_T {h : Heap} {nm : String} {add : Bool} (X : K.In h) (e : findIn K (.type T) (dunderI nm) = some none) : Looks (model prog w) h (fillsInplaceSlot (.type T) nm add) false := by
  intro A Q E s k q
  obtain ⟨hh, g, d, tt, os⟩ := s
  have X' : K.In hh := X.keeps k
  have L1 : Looks (model prog w) hh (typeLookup (.type T) (dunderI nm)) none := looks_findIn X' e
  unfold fillsInplaceSlot
  repeat lk
  exact q
theorem noIn_C {h : Heap} {nm : String} {add : Bool} (X : K.In h) (m : (clsIn K C).map (·.mro) = some [.ref C, .type "object"]) (e : findIn K (.ref C) (dunderI nm) = some none) (e' : findIn K (.type "object") (dunderI nm) = some none) : Looks (model prog w) h (fillsInplaceSlot (.ref C) nm add) false := by
  intro A Q E s k q
  obtain ⟨hh, g, d, tt, os⟩ := s
  have X' : K.In hh := X.keeps k
  have L1 : Looks (model prog w) hh (typeLookup (.ref C) (dunderI nm)) none := looks_findIn X' e
  have L2 : Looks (model prog w) hh (typeLookup (.type "object") (dunderI nm)) none := looks_findIn X' e'
  obtain ⟨cd, hcd, hm⟩ := Option.map_eq_some_iff.mp m
  have L3 : Looks (model prog w) hh (mroOf (.ref C)) cd.mro := (looks_clsIn X' hcd).andThen (f := fun cd => pure cd.mro) .now
  rw [hm] at L3
  unfold fillsInplaceSlot
  refine wpAny_bind (L3.at ?_)
  simp only [List.anyM_cons, List.anyM_nil]
  repeat lk
  exact q
end
end L3
end
section
namespace L3
open PySem PySem.Spec PyProof.Rows L2
section
variable {X : Cx} {CX : CXT} {k : Nat} {C f g : Addr} {fd fd' : FuncData} {ps : List Str} {sp : Sp} {E : XK} {op : Operator}
theorem rel_back {Q : Value → Shared → Prop} {v : V} {u : Value} {s : Shared} (r : RelV v u) (h : Q u s) : PySem.W.CmpBack Q u s := by
  cases u <;> first | exact h | skip
  all_goals (cases v <;> first | (exact False.elim r) | (obtain ⟨_, z⟩ := r; cases z; done) | (obtain ⟨z, _⟩ := r; cases z; done) | (cases r; done))
theorem ins_inst {P : Program} {w : World} {H : Hp} {h : Heap} {a C dx : Addr} {fs : List (Str × V)} (hok : HOk P w H h) (e : H a = some (.ins C dx fs)) : ∃ od, PySem.W.InstAt h a (PySem.W.instObj C dx) C (some od) := by
  obtain ⟨h1, _, h3, h4, mA, hns, _⟩ := (show ObjOk P w H h a (.ins C dx fs) from hok a _ e)
  obtain ⟨od, ho, _⟩ := lookIn_ns hns
  exact ⟨od, h4, rfl, rfl, ho⟩
/-- what the class says of its operator -/
structure OwnOp (K : PySem.W.Frag) (C f : Addr) (op : Operator) : Prop where
  self : PySem.W.selfFirst K C = true
  meth : PySem.W.findIn K (.ref C) (PySem.dunder op.info.2) = some (some (.ref f))
  fn : PySem.W.isFn K (.ref f) = true
  /-- the other way round: none or an own def -/
  refl : ∃ rc, PySem.W.findIn K (.ref C) (dunderR op.info.2) = some rc ∧ (rc = none ∨ ∃ g : Addr, rc = some (.ref g))
/-- the other operand: one of the same class, or one of a built-in type -/
def Other (K : PySem.W.Frag) (C : Addr) (op : Operator) (y : V) (H : Hp) : Prop := (∃ b dx fs, y = .ref b ∧ H b = some (.ins C dx fs)) ∨
  ∃ (T : String) (fo ro : Option Value), TyX K H y (.type T) ∧ PySem.W.findIn K (.type T) (PySem.dunder op.info.2) = some fo ∧ PySem.W.findIn K (.type T) (dunderR op.info.2) = some ro ∧ PySem.W.subIn K (.type T) (.ref C) = some false
/-- an operator of two values, its number part -/
def OpR1 (X : Cx) (op : Operator) (r : R2) : Prop := ∀ (pins : List (Addr × Obj)) (s : Shared) (σ : L2.St) (H : Hp) (x y : V) (v u : Value) (Q : VK), Inv X pins σ H s → RelV x v → RelV y u → r x y H Q →
  wpAny (model X.prog X.w) X.A (binaryOp1 op.info.2 v u) (fun r s' => ∃ z, r = some z ∧ EP X pins σ Q z s') X.xe s
theorem OpR1.bin {r : R2} (h : OpR1 X op r) : OpR X (binaryOp op) r := fun pins s σ H x y v u Q I rx ry q => bin_of1 (h pins s σ H x y v u Q I rx ry q)
theorem OpR1.or {r r' : R2} (h : OpR1 X op r) (h' : OpR1 X op r') : OpR1 X op (fun x y H Q => r x y H Q ∨ r' x y H Q) := fun pins s σ H x y v u Q I rx ry q => q.elim (h pins s σ H x y v u Q I rx ry) (h' pins s σ H x y v u Q I rx ry)
/-- in place: where the left one's type has no slot of its own for it -/
theorem OpR1.inp {r : R2} (h : OpR1 X op r) (hn : ∀ x y H Q, r x y H Q → (∃ i, x = .int i) ∨ ∃ a dx fs, x = .ref a ∧ H a = some (.ins C dx fs)) (hi : PySem.W.findIn X.K (.type "int") (dunderI op.info.2) = some none) (m : (PySem.W.clsIn X.K C).map (·.mro) = some [.ref C, .type "object"])
    (e : PySem.W.findIn X.K (.ref C) (dunderI op.info.2) = some none) (e' : PySem.W.findIn X.K (.type "object") (dunderI op.info.2) = some none) : OpR X (inplaceOp op) r := fun pins s σ H x y v u Q I rx ry q => by
  rcases hn _ _ _ _ q with ⟨i, rfl⟩ | ⟨a, dx, fs, rfl, ea⟩
  · obtain ⟨t, rfl⟩ := (show ∃ t, v = Value.int i t from rx)
    exact inp_of1 (PySem.W.Looks.of_pure rfl) (noIn_T I.kIn hi) (h pins s σ H _ y _ u Q I rx ry q)
  · obtain rfl : v = Value.ref a := rx
    obtain ⟨od, J⟩ := ins_inst I.hok ea
    exact inp_of1 J.type (noIn_C I.kIn m e e') (h pins s σ H (.ref a) y (.ref a) u Q I rfl ry q)
theorem op_own (T : OwnOp X.K C f op) (F : FnOk X.prog X.w X.K X.mg X.base CX k f fd ps sp) (hr : Room k X.A) (hb : Binds X.K fd ps []) (hx : Passes CX X E) :
    OpR1 X op (fun x y H Q => ∃ a dx fs, x = .ref a ∧ H a = some (.ins C dx fs) ∧ Other X.K C op y H ∧ sp [x, y] H Q E) := by
  intro pins s σ H x y v u Q I rx ry h
  obtain ⟨a, dx, fs, rfl, ea, ho, q⟩ := h
  obtain rfl : v = Value.ref a := rx
  obtain ⟨od, J⟩ := ins_inst I.hok ea
  have run : wpAny (model X.prog X.w) X.A (call (.ref f) [.ref a, u]) (PySem.W.CmpBack (EP X pins σ Q)) X.xe s :=
    wpAny_mono (run_fn F hr hb .nil hx I (vs := [.ref a, y]) (.cons (show RelV (.ref a) (.ref a) from rfl) (.cons ry .nil)) (by rw [List.append_nil]; exact q)) (fun w' s' ⟨v', H', I', r', z⟩ => rel_back r' ⟨v', H', I', r', z⟩) fun _ _ z => z
  rcases ho with ⟨b, dx', fs', rfl, eb⟩ | ⟨Ty, fo, ro, ty, h1, h2, h3⟩
  · obtain rfl : u = Value.ref b := ry
    obtain ⟨od', J'⟩ := ins_inst I.hok eb
    exact bin_same I.kIn J J' T.self T.meth T.fn run
  · obtain ⟨rc, hrc, hp⟩ := T.refl
    obtain ⟨P', kx, hP, _⟩ := kit_of I ry ty
    exact bin_own I.kIn J (kx.ty _ _ I.kIn hP) T.self T.meth T.fn hrc hp h1 h2 h3 run
/-- a left operand of a built-in type that has no such number slot -/
def NoSlot (K : PySem.W.Frag) (op : Operator) (T : String) : Prop := ∃ fo ro : Option Value, PySem.W.findIn K (.type T) (PySem.dunder op.info.2) = some fo ∧ PySem.W.findIn K (.type T) (dunderR op.info.2) = some ro ∧ ((fo.isSome && !isSeqSlot fo) || (ro.isSome && !isSeqSlot ro)) = false
theorem op_refl (self : PySem.W.selfFirst X.K C = true) (hs : PySem.W.findIn X.K (.ref C) (PySem.dunder op.info.2) = some (some (.ref g))) (hf : PySem.W.findIn X.K (.ref C) (dunderR op.info.2) = some (some (.ref f))) (fn : PySem.W.isFn X.K (.ref f) = true)
    (F : FnOk X.prog X.w X.K X.mg X.base CX k f fd ps sp) (hr : Room k X.A) (hb : Binds X.K fd ps []) (hx : Passes CX X E) :
    OpR1 X op (fun x y H Q => ∃ a dx fs T, y = .ref a ∧ H a = some (.ins C dx fs) ∧ TyX X.K H x (.type T) ∧ NoSlot X.K op T ∧ sp [y, x] H Q E) := by
  intro pins s σ H x y v u Q I rx ry h
  obtain ⟨a, dx, fs, Ty, rfl, ea, ty, ⟨fo, ro, h1, h2, h3⟩, q⟩ := h
  obtain rfl : u = Value.ref a := ry
  obtain ⟨od, J⟩ := ins_inst I.hok ea
  obtain ⟨P', kx, hP, _⟩ := kit_of I rx ty
  refine bin_refl I.kIn J (kx.ty _ _ I.kIn hP) self hs hf fn h1 h2 h3 ?_
  exact wpAny_mono (run_fn F hr hb .nil hx I (vs := [.ref a, x]) (.cons (show RelV (.ref a) (.ref a) from rfl) (.cons rx .nil)) (by rw [List.append_nil]; exact q)) (fun w' s' ⟨v', H', I', r', z⟩ => rel_back r' ⟨v', H', I', r', z⟩) fun _ _ z => z
end
end L3
namespace L3
open PySem PySem.Spec PySem.Calls PyProof.Rows PySem.W
section
variable {prog : Program} {w : World} {A : Around} {E : Value → Shared → Prop} {s : Shared} {x : Addr} {ox : Obj} {T id : String} {name : Str} {B : Builtin} {u : Value}
theorem try_decl (slot : Slot T name id) (hT : s.TypeIs u T) (entry : entryFor table id = some B) (args : argsOk id ⟨[u, .ref x], []⟩)
    (hB : ∀ {M : Model} {A : Around} {E : Value → Shared → Prop} {P : Fin → Shared → Prop}, P (.done (.ret .notImplemented)) s → wpAny M A (B ⟨[u, .ref x], []⟩) P E s) (Q : Option Value → Shared → Prop) (h : Q none s) :
    wpAny (model prog w) A (tryMethod u name (.ref x)) Q E s := by
  unfold tryMethod
  refine wpAny_bind (wpAny_callSpecial?_slot hT slot ?_)
  refine wpAny_call (codeAny_call_builtin slot.plain entry (slot.check _ _ _ _ _ _ _ _ hT args (hB ?_)))
  exact wpAny_pure h
end
end L3
namespace L3
open PySem PySem.Spec PyProof.Rows L2
section
variable {X : Cx} {CX : CXT} {k : Nat} {C f g : Addr} {fd : FuncData} {ps : List Str} {sp : Sp} {E : XK} {op : Operator}
/-- a number, then an own object -/
theorem op_reflI {T : String} {n : V → Prop} (hn : ∀ v u, n v → RelV v u → ∀ (s : Shared) (M : Model), PySem.W.Looks M s.heap (typeOf u) (.type T)) (self : PySem.W.selfFirst X.K C = true) (hs : PySem.W.findIn X.K (.ref C) (PySem.dunder op.info.2) = some (some (.ref g)))
    (hf : PySem.W.findIn X.K (.ref C) (dunderR op.info.2) = some (some (.ref f))) (fn : PySem.W.isFn X.K (.ref f) = true) (hfl : fillsNumberSlot (.type T) op.info.2 = pure true) (hsub : PySem.W.subIn X.K (.ref C) (.type T) = some false)
    (dec : ∀ (v : V) (u : Value) (s : Shared) (a : Addr) (ox : Obj) (Q : Option Value → Shared → Prop), n v → RelV v u → s.heap.get? a = some ox → ox.data = .plain → Q none s → wpAny (model X.prog X.w) X.A (tryMethod u (PySem.dunder op.info.2) (.ref a)) Q X.xe s)
    (F : FnOk X.prog X.w X.K X.mg X.base CX k f fd ps sp) (hr : Room k X.A) (hb : Binds X.K fd ps []) (hx : Passes CX X E) :
    OpR1 X op (fun x y H Q => ∃ a dx fs, y = .ref a ∧ H a = some (.ins C dx fs) ∧ n x ∧ sp [y, x] H Q E) := by
  intro pins s σ H x y v u Q I rx ry h
  obtain ⟨a, dx, fs, rfl, ea, nx, q⟩ := h
  obtain rfl : u = Value.ref a := ry
  obtain ⟨od, J⟩ := ins_inst I.hok ea
  refine bin_reflN I.kIn J (hn _ _ nx rx s _) self hs hf fn hfl hsub (fun Q h => dec x v s a _ Q nx rx J.at_ rfl h) ?_
  exact wpAny_mono (run_fn F hr hb .nil hx I (vs := [.ref a, x]) (.cons (show RelV (.ref a) (.ref a) from rfl) (.cons rx .nil)) (by rw [List.append_nil]; exact q)) (fun w' s' ⟨v', H', I', r', z⟩ => rel_back r' ⟨v', H', I', r', z⟩) fun _ _ z => z
theorem looksI {v : V} {u : Value} (n : ∃ i, v = .int i) (r : RelV v u) (s : Shared) (M : Model) : PySem.W.Looks M s.heap (typeOf u) (.type "int") := by
  obtain ⟨i, rfl⟩ := n
  obtain ⟨t, rfl⟩ := (show ∃ t, u = Value.int i t from r)
  exact PySem.W.Looks.of_pure rfl
theorem decI_add {P : Program} {w : World} {A : Around} {E' : Value → Shared → Prop} (v : V) (u : Value) (s : Shared) (a : Addr) (ox : Obj) (Q : Option Value → Shared → Prop) (n : ∃ i, v = .int i) (r : RelV v u) (e : s.heap.get? a = some ox) (hd : ox.data = .plain) (h : Q none s) :
    wpAny (model P w) A (tryMethod u (PySem.dunder "add") (.ref a)) Q E' s := by
  obtain ⟨i, rfl⟩ := n
  obtain ⟨t, rfl⟩ := (show ∃ t, u = Value.int i t from r)
  exact try_decl PySem.F.slot_int_add (typeIs_int s i t) PySem.F.entry_int_add (PySem.F.args_int_add_2 _ _) (fun h => dI_add e hd h) Q h
theorem decI_sub {P : Program} {w : World} {A : Around} {E' : Value → Shared → Prop} (v : V) (u : Value) (s : Shared) (a : Addr) (ox : Obj) (Q : Option Value → Shared → Prop) (n : ∃ i, v = .int i) (r : RelV v u) (e : s.heap.get? a = some ox) (hd : ox.data = .plain) (h : Q none s) :
    wpAny (model P w) A (tryMethod u (PySem.dunder "sub") (.ref a)) Q E' s := by
  obtain ⟨i, rfl⟩ := n
  obtain ⟨t, rfl⟩ := (show ∃ t, u = Value.int i t from r)
  exact try_decl PySem.F.slot_int_sub (typeIs_int s i t) PySem.F.entry_int_sub (PySem.F.args_int_sub_2 _ _) (fun h => dI_sub e hd h) Q h
theorem decI_mul {P : Program} {w : World} {A : Around} {E' : Value → Shared → Prop} (v : V) (u : Value) (s : Shared) (a : Addr) (ox : Obj) (Q : Option Value → Shared → Prop) (n : ∃ i, v = .int i) (r : RelV v u) (e : s.heap.get? a = some ox) (hd : ox.data = .plain) (h : Q none s) :
    wpAny (model P w) A (tryMethod u (PySem.dunder "mul") (.ref a)) Q E' s := by
  obtain ⟨i, rfl⟩ := n
  obtain ⟨t, rfl⟩ := (show ∃ t, u = Value.int i t from r)
  exact try_decl PySem.F.slot_int_mul (typeIs_int s i t) PySem.F.entry_int_mul (PySem.F.args_int_mul_2 _ _) (fun h => dI_mul e hd h) Q h
theorem decI_floordiv {P : Program} {w : World} {A : Around} {E' : Value → Shared → Prop} (v : V) (u : Value) (s : Shared) (a : Addr) (ox : Obj) (Q : Option Value → Shared → Prop) (n : ∃ i, v = .int i) (r : RelV v u) (e : s.heap.get? a = some ox) (hd : ox.data = .plain) (h : Q none s) :
    wpAny (model P w) A (tryMethod u (PySem.dunder "floordiv") (.ref a)) Q E' s := by
  obtain ⟨i, rfl⟩ := n
  obtain ⟨t, rfl⟩ := (show ∃ t, u = Value.int i t from r)
  exact try_decl PySem.F.slot_int_floordiv (typeIs_int s i t) PySem.F.entry_int_floordiv (PySem.F.args_int_floordiv_2 _ _) (fun h => dI_floordiv e hd h) Q h
theorem decI_mod {P : Program} {w : World} {A : Around} {E' : Value → Shared → Prop} (v : V) (u : Value) (s : Shared) (a : Addr) (ox : Obj) (Q : Option Value → Shared → Prop) (n : ∃ i, v = .int i) (r : RelV v u) (e : s.heap.get? a = some ox) (hd : ox.data = .plain) (h : Q none s) :
    wpAny (model P w) A (tryMethod u (PySem.dunder "mod") (.ref a)) Q E' s := by
  obtain ⟨i, rfl⟩ := n
  obtain ⟨t, rfl⟩ := (show ∃ t, u = Value.int i t from r)
  exact try_decl PySem.F.slot_int_mod (typeIs_int s i t) PySem.F.entry_int_mod (PySem.F.args_int_mod_2 _ _) (fun h => dI_mod e hd h) Q h
theorem looksB {v : V} {u : Value} (n : ∃ b, v = .bl b) (r : RelV v u) (s : Shared) (M : Model) : PySem.W.Looks M s.heap (typeOf u) (.type "bool") := by
  obtain ⟨i, rfl⟩ := n
  obtain rfl := (show u = Value.bool i from r)
  exact PySem.W.Looks.of_pure rfl
theorem decB_add {P : Program} {w : World} {A : Around} {E' : Value → Shared → Prop} (v : V) (u : Value) (s : Shared) (a : Addr) (ox : Obj) (Q : Option Value → Shared → Prop) (n : ∃ b, v = .bl b) (r : RelV v u) (e : s.heap.get? a = some ox) (hd : ox.data = .plain) (h : Q none s) :
    wpAny (model P w) A (tryMethod u (PySem.dunder "add") (.ref a)) Q E' s := by
  obtain ⟨b, rfl⟩ := n
  obtain rfl := (show u = Value.bool b from r)
  exact try_decl PySem.F.slot_bool_add (PySem.typeIs_bool s b) PySem.F.entry_int_add (PySem.F.args_int_add_2 _ _) (fun h => dB_add e hd h) Q h
theorem decB_sub {P : Program} {w : World} {A : Around} {E' : Value → Shared → Prop} (v : V) (u : Value) (s : Shared) (a : Addr) (ox : Obj) (Q : Option Value → Shared → Prop) (n : ∃ b, v = .bl b) (r : RelV v u) (e : s.heap.get? a = some ox) (hd : ox.data = .plain) (h : Q none s) :
    wpAny (model P w) A (tryMethod u (PySem.dunder "sub") (.ref a)) Q E' s := by
  obtain ⟨b, rfl⟩ := n
  obtain rfl := (show u = Value.bool b from r)
  exact try_decl PySem.F.slot_bool_sub (PySem.typeIs_bool s b) PySem.F.entry_int_sub (PySem.F.args_int_sub_2 _ _) (fun h => dB_sub e hd h) Q h
theorem decB_mul {P : Program} {w : World} {A : Around} {E' : Value → Shared → Prop} (v : V) (u : Value) (s : Shared) (a : Addr) (ox : Obj) (Q : Option Value → Shared → Prop) (n : ∃ b, v = .bl b) (r : RelV v u) (e : s.heap.get? a = some ox) (hd : ox.data = .plain) (h : Q none s) :
    wpAny (model P w) A (tryMethod u (PySem.dunder "mul") (.ref a)) Q E' s := by
  obtain ⟨b, rfl⟩ := n
  obtain rfl := (show u = Value.bool b from r)
  exact try_decl PySem.F.slot_bool_mul (PySem.typeIs_bool s b) PySem.F.entry_int_mul (PySem.F.args_int_mul_2 _ _) (fun h => dB_mul e hd h) Q h
theorem decB_floordiv {P : Program} {w : World} {A : Around} {E' : Value → Shared → Prop} (v : V) (u : Value) (s : Shared) (a : Addr) (ox : Obj) (Q : Option Value → Shared → Prop) (n : ∃ b, v = .bl b) (r : RelV v u) (e : s.heap.get? a = some ox) (hd : ox.data = .plain) (h : Q none s) :
    wpAny (model P w) A (tryMethod u (PySem.dunder "floordiv") (.ref a)) Q E' s := by
  obtain ⟨b, rfl⟩ := n
  obtain rfl := (show u = Value.bool b from r)
  exact try_decl PySem.F.slot_bool_floordiv (PySem.typeIs_bool s b) PySem.F.entry_int_floordiv (PySem.F.args_int_floordiv_2 _ _) (fun h => dB_floordiv e hd h) Q h
theorem decB_mod {P : Program} {w : World} {A : Around} {E' : Value → Shared → Prop} (v : V) (u : Value) (s : Shared) (a : Addr) (ox : Obj) (Q : Option Value → Shared → Prop) (n : ∃ b, v = .bl b) (r : RelV v u) (e : s.heap.get? a = some ox) (hd : ox.data = .plain) (h : Q none s) :
    wpAny (model P w) A (tryMethod u (PySem.dunder "mod") (.ref a)) Q E' s := by
  obtain ⟨b, rfl⟩ := n
  obtain rfl := (show u = Value.bool b from r)
  exact try_decl PySem.F.slot_bool_mod (PySem.typeIs_bool s b) PySem.F.entry_int_mod (PySem.F.args_int_mod_2 _ _) (fun h => dB_mod e hd h) Q h
end
end L3
namespace L3
open PySem PySem.Spec PyProof.Rows L2
section
variable {X : Cx} {CX : CXT} {k : Nat} {C f g : Addr} {fd : FuncData} {ps : List Str} {sp : Sp} {E : XK}
theorem op_neg (hs : PySem.W.findIn X.K (.ref C) "__neg__" = some (some (.ref f))) (fn : PySem.W.isFn X.K (.ref f) = true) (F : FnOk X.prog X.w X.K X.mg X.base CX k f fd ps sp) (hr : Room k X.A) (hb : Binds X.K fd ps []) (hx : Passes CX X E) :
    UnR X (unaryOp .USub) (fun x H Q => ∃ a dx fs, x = .ref a ∧ H a = some (.ins C dx fs) ∧ sp [x] H Q E) := by
  intro pins s σ H x v Q I rx h
  obtain ⟨a, dx, fs, rfl, ea, q⟩ := h
  obtain rfl : v = Value.ref a := rx
  obtain ⟨od, J⟩ := ins_inst I.hok ea
  obtain ⟨m, Fr⟩ := I.fr
  exact PySem.W.ksp_neg Fr I.mod.kin J hs fn (run_fn F hr hb .nil hx I (vs := [.ref a]) (.cons (show RelV (.ref a) (.ref a) from rfl) .nil) (by rw [List.append_nil]; exact q))
end
end L3
end
section
namespace L3
open PySem PySem.Spec PyProof.Rows L2 LamX
/-! ## defs whose promise holds under any guards, as bundles -/
section
variable {P : Program} {w : World} {K : PySem.W.Frag} {mg : Str → Option Value} {base : Heap} {CX : CXT} {x qual : Str} {f : Addr} {fd : FuncData} {N ps : List Str} {k : Nat} {sp : Sp}
theorem funO {st : Stmt} (F : L2.Fun K x qual st f fd) (S : FnScope N ps (defScope st)) (len : ∀ vs H Q E, sp vs H Q E → vs.length = ps.length)
    (body : ∀ (cd : Value) (A : Around) (fr : List Env) (s : Shared) (H : Hp) (vs : List V) (Q : VK) (E : XK), Room k (A.deeper (envOfC qual (defScope st) s.heap.objs.size f cd)) → sp vs H Q E →
      ∃ t, PSs (cxOf CX P w K mg base N qual (defScope st) f cd A fr s H E) (defBody st) t ∧ t { nx := fun _ H' => Q .non H', rt := Q } (L2.start N vs) H) :
    FnOk P w K mg base CX (k + 1) f fd ps sp := by
  obtain ⟨oc, od, kV, doc, pm, an, cd, ct, sl, rfl, lk, hcd⟩ := F.ex
  exact ⟨len, fun A fr s H as us vs Q E hr e0 hb r h => LamX.run_ofS lk hcd S hr e0 hb r (len _ _ _ _ h) fun hr' => body cd A fr s H vs Q E hr' h⟩
theorem funDO {pa : Arguments} {bd : List Stmt} {sc : Scope} {dvs : List V} {kws : List (Str × V)}
    (F : FunD K x qual pa bd sc dvs kws f fd) (S : FnScope N ps sc) (len : ∀ vs H Q E, sp vs H Q E → vs.length = ps.length)
    (body : ∀ (cd : Value) (A : Around) (fr : List Env) (s : Shared) (H : Hp) (vs : List V) (Q : VK) (E : XK), Room k (A.deeper (envOfC qual sc s.heap.objs.size f cd)) → sp vs H Q E →
      ∃ t, PSs (cxOf CX P w K mg base N qual sc f cd A fr s H E) bd t ∧ t { nx := fun _ H' => Q .non H', rt := Q } (L2.start N vs) H) :
    FnOk P w K mg base CX (k + 1) f fd ps sp := by
  obtain ⟨oc, od, dV, kV, doc, pm, an, cd, ct, sl, rfl, lk, hcd, _⟩ := F.ex
  exact ⟨len, fun A fr s H as us vs Q E hr e0 hb r h => LamX.run_ofS lk hcd S hr e0 hb r (len _ _ _ _ h) fun hr' => body cd A fr s H vs Q E hr' h⟩
/-- a def of the module, called by its name -/
structure FnO (P : Program) (w : World) (K : PySem.W.Frag) (mg : Str → Option Value) (base : Heap) (CX : CXT) (k : Nat) (x : Str) (ps : List Str) (sp : Sp) : Prop where
  ex : ∃ (f : Addr) (fd : FuncData), FnOk P w K mg base CX k f fd ps sp ∧ mg x = some (.ref f) ∧ PySem.W.keepIn K (.ref f) = true ∧ L2.Binds K fd ps []
/-- a class of the module, made by its name -/
structure McO (P : Program) (w : World) (K : PySem.W.Frag) (mg : Str → Option Value) (base : Heap) (CX : CXT) (k : Nat) (x : Str) (C : Addr) (ps : List Str) (sp : Sp) (dvs : List V) : Prop where
  ex : ∃ (f : Addr) (fd : FuncData) (ds : List Value), FnOk P w K mg base CX k f fd ps sp ∧ mg x = some (.ref C) ∧ Mk K C f ∧ L2.Binds K fd ps ds ∧ Vals dvs ds
end
section
variable {X : Cx} {CX : CXT} {k : Nat} {ps : List Str} {sp : Sp} {E : XK} {x : Str} {p pos : Pos} {e : Expr} {es : List Expr} {t : TA}
theorem pe_o {j : Nat} (c : FnO X.prog X.w X.K X.mg X.base CX k x ps sp) (hr : Room j X.A) (hx : Passes CX X E) (ha : PA X (e :: es) t) (hk : k ≤ j := by decide) (gl : Gl X x := by rfl)
    (hdb : (x == ("__debug__" : Str)) = false := by decide) (he : starEach (e :: es) X.env = (false, eval e X.env) :: starEach es X.env := by rfl) (hpl : (backTo pos (starEach es X.env)).any (·.1) = false := by rfl) :
    PE X (.Call (.Name x p) (e :: es) [] pos) (tCall sp [] E t) := by
  obtain ⟨f, fd, F, m, kp, b⟩ := c.ex
  exact pe_call F (hr.mono hk) gl m kp b .nil hx ha hdb he hpl
theorem pe_mko {j : Nat} {C : Addr} {dvs : List V} (c : McO X.prog X.w X.K X.mg X.base CX k x C ps sp dvs) (hr : Room j X.A) (hx : Passes CX X E) (ha : PA X (e :: es) t) (hk : k + 1 ≤ j := by decide) (gl : Gl X x := by rfl)
    (hdb : (x == ("__debug__" : Str)) = false := by decide) (he : starEach (e :: es) X.env = (false, eval e X.env) :: starEach es X.env := by rfl) (hpl : (backTo pos (starEach es X.env)).any (·.1) = false := by rfl) :
    PE X (.Call (.Name x p) (e :: es) [] pos) (tMake C sp dvs E t) := by
  obtain ⟨f, fd, ds, F, m, M, b, hd⟩ := c.ex
  exact pe_make M F (hr.mono hk) gl m b hd hx ha hdb he hpl
/-- nothing leaves -/
theorem passF : Passes (L2.CX X.prog X.w) X (fun _ _ _ => False) := fun _ _ _ _ _ _ _ ⟨_, _, _, _, _, _, _, _, _, _, _, _, z⟩ => z.elim
theorem passT {W : WX} (tk : Takes X W) (hW : ∀ cls d σ H, E cls d H → W cls d σ H) : Passes (L2.CX X.prog X.w) X E := passes_call tk hW
end
/-! ## an error of the package with one field, raised -/
structure Er1 (P : Program) (w : World) (K : PySem.W.Frag) (mg : Str → Option Value) (base : Heap) (x : Str) (C : Addr) (g : Str) : Prop where
  oex : OexC K C
  m : mg x = some (.ref C)
  ex : ∃ (f : Addr) (fd : FuncData) (y : Str), PySem.W.findIn K (.ref C) "__init__" = some (some (.ref f)) ∧ PySem.W.typeIn K (.ref f) = some (.type "function") ∧ FnOk P w K mg base CX0 1 f fd ["self", y] (spErr1 C g) ∧ L2.Binds K fd ["self", y] []
def Rz (C : Addr) (g : Str) (v : V) (H : Hp) (E : XK) : Prop := ∀ d H', H d = none → Ex H H' → H' d = some (.xd [(g, v)]) → E (.ref C) (some d) H'
def rMk1 (C : Addr) (g : Str) (vs : List V) (H1 : Hp) (E : XK) : Prop := vs.length ≤ 1000 ∧ ∀ a, H1 a = none → spErr1 C g (.ref a :: (vs ++ [])) (upd H1 a (exo a C none))
  (fun v H2 => v = .non ∧ ∃ (d : Addr) (fs : List (Str × V)), H2 a = some (exo a C (some d)) ∧ H2 d = some (exd d fs) ∧ H1 d = none ∧ E (.ref C) (some d) (upd (del H2 a) d (.xd fs))) (fun _ _ _ => False)
def tRaise1 (C : Addr) (g : Str) (te : TE) (W : WX) : TS := fun _ σ H => te σ H fun v H1 => rMk1 C g [v] H1 (fun cls d H' => W cls d σ H')
theorem ps_raise1 {X : Cx} {W : WX} {x g : Str} {C : Addr} {j : Nat} {e : Expr} {te : TE} {p p1 pos : Pos} (c : Er1 X.prog X.w X.K X.mg X.base x C g) (hr : Room j X.A) (hc : X.calm = true) (tk : Takes X W) (ha : PA X [e] (tCons te tNil)) (hk : 2 ≤ j := by decide) (gl : Gl X x := by rfl)
    (hdb : (x == ("__debug__" : Str)) = false := by decide) (hst : starEach [e] X.env = (false, eval e X.env) :: starEach [] X.env := by rfl) :
    PS X (.Raise (some (.Call (.Name x p) [e] [] p1)) none pos) (tRaise1 C g te W) := by
  obtain ⟨f, fd, y, i1, i2, F, b⟩ := c.ex
  exact ps_raise (pos := pos) hc tk (pmk_oex (p := p) (pos := p1) c.oex i1 i2 F (hr.mono hk) b .nil pass0 gl c.m ha hdb hst)
theorem s_raise1 {C : Addr} {g : Str} {te : TE} {W : WX} {D : Ends} {σ : L2.St} {H : Hp} (h : te σ H fun v H1 => rMk1 C g [v] H1 (fun cls d H' => W cls d σ H')) : tRaise1 C g te W D σ H := h
theorem s_rz {C : Addr} {g : Str} {v : V} {H : Hp} {E : XK} (h : Rz C g v H E) : rMk1 C g [v] H E := by
  refine ⟨(show 1 ≤ 1000 by decide), fun a ha => ⟨a, v, rfl, upd_same, fun dx h1 h2 => ⟨rfl, dx, _, upd_same, ?_, ?_, h dx _ ?_ ?_ upd_same⟩⟩⟩
  · rw [upd_ne h2, upd_same]
  · rw [upd_ne h2] at h1; exact h1
  · rw [upd_ne h2] at h1; exact h1
  · intro b o e
    have n1 : b ≠ a := ne_of_none e ha
    have n2 : b ≠ dx := by
      rw [upd_ne h2] at h1
      exact ne_of_none e h1
    rw [upd_ne n2, del_ne n1, upd_ne n1, upd_ne n2, upd_ne n1]
    exact e
end L3
end
section
namespace L3
open PySem PySem.Spec PyProof.Rows L2 LamX
/-! ## values of other kinds, with what repr writes of them -/
inductive Od (H : Hp) : V → Str → Prop
  | non : Od H .non (PyData.shown .none)
  | bl (b : Bool) : Od H (.bl b) (PyData.shown (.bool b))
  | str (z : Str) : z.length ≤ 100 → (PyData.str z).shown.length ≤ 1001 → Od H (.str z) (PyData.str z).shown
  | tup {p : Addr} {xs : List V} : H p = some (.tup xs) → xs.all fitF = true → (PyData.tuple (xs.map flatD)).shown.length ≤ 1000 → Od H (.ref p) (PyData.tuple (xs.map flatD)).shown
  | lst {p : Addr} {xs : List V} : H p = some (.lst xs) → xs.all fitF = true → xs.length ≤ 1000 → Od H (.ref p) (PyData.list (xs.map flatD)).shown
  | dic {p : Addr} : H p = some (.dK []) → Od H (.ref p) (PyData.dict []).shown
theorem Od.ex {H H' : Hp} {v : V} {t : Str} (h : Od H v t) (e : Ex H H') : Od H' v t := by
  cases h with
  | non => exact .non
  | bl b => exact .bl b
  | str z h1 h3 => exact .str z h1 h3
  | tup h1 h2 h3 => exact .tup (e _ _ h1) h2 h3
  | lst h1 h2 h3 => exact .lst (e _ _ h1) h2 h3
  | dic h1 => exact .dic (e _ _ h1)
abbrev odTys : List String := ["NoneType", "bool", "str", "tuple", "list", "dict"]
theorem Od.ty {K : PySem.W.Frag} {H : Hp} {v : V} {t : Str} (h : Od H v t) : (∃ b, v = .bl b) ∨ ∃ T, TyX K H v (.type T) ∧ T ∈ ["NoneType", "str", "tuple", "list", "dict"] := by
  cases h with
  | non => exact .inr ⟨_, .base .non, by simp⟩
  | bl b => exact .inl ⟨b, rfl⟩
  | str z _ _ => exact .inr ⟨_, .base (.str z), by simp⟩
  | tup h1 _ _ => exact .inr ⟨_, .base (.tup h1), by simp⟩
  | lst h1 _ _ => exact .inr ⟨_, .base (.lst h1), by simp⟩
  | dic h1 => exact .inr ⟨_, .base (.dK h1), by simp⟩
theorem Od.tyAll {K : PySem.W.Frag} {H : Hp} {v : V} {t : Str} (h : Od H v t) : ∃ T, TyX K H v (.type T) ∧ T ∈ odTys := by
  rcases h.ty (K := K) with ⟨b, rfl⟩ | ⟨T, h1, h2⟩
  · exact ⟨_, .base (.bl b), by simp⟩
  · exact ⟨T, h1, by simp only [List.mem_cons] at h2 ⊢; rcases h2 with h | h | h | h | h | h <;> simp_all⟩
theorem Od.nint {H : Hp} {v : V} {t : Str} (h : Od H v t) : ∀ i, v ≠ .int i := fun i e => by subst e; cases h
/-- isinstance of such a value: not a number, not of an own class -/
theorem kit_bool_int {K : PySem.W.Frag} : PySem.W.kitOne K (.type "bool") (.type "int") = some true := kit_ty (by decide +kernel)
theorem Od.noInt {K : PySem.W.Frag} {H : Hp} {v : V} {t : Str} (h : Od H v t) : (∃ b, v = .bl b) ∨ ∃ ty, TyA K H v ty ∧ PySem.W.kitOne K ty (.type "int") = some false := by
  rcases h.ty (K := K) with ⟨b, rfl⟩ | ⟨T, h1, h2⟩
  · exact .inl ⟨b, rfl⟩
  · refine .inr ⟨_, .x h1, ?_⟩
    simp only [List.mem_cons, List.not_mem_nil, or_false] at h2
    rcases h2 with rfl | rfl | rfl | rfl | rfl <;> exact kit_ty (by decide +kernel)
theorem Od.noCls {K : PySem.W.Frag} {H : Hp} {v : V} {t : Str} {C : Addr} (h : Od H v t) (f : odTys.all (fun T => decide (PySem.W.kitOne K (.type T) (.ref C) = some false)) = true) : ∃ ty, TyA K H v ty ∧ PySem.W.kitOne K ty (.ref C) = some false := by
  obtain ⟨T, h1, h2⟩ := h.tyAll (K := K)
  exact ⟨_, .x h1, of_decide_eq_true (List.all_eq_true.mp f T h2)⟩
/-! ## repr of the empty dict -/
def rReprE : List V → Hp → VK → Prop := fun xs H Q => ∃ a, xs = [.ref a] ∧ ((H a = some (.dK []) ∧ Q (.str (PyData.dict []).shown) H) ∨ (H a = some (.dK [(.inl 1, .int 2)]) ∧ Q (.str (PyData.dict [(.int 1, .int 2)]).shown) H))
theorem call_reprE {X : Cx} (hg : X.A.guards = some []) (hu : X.A.units + 64 < cLine) : CallR X (.builtin "repr") rReprE := by
  intro pins s σ H xs us Q I r h
  obtain ⟨a, rfl, hc⟩ := h
  obtain ⟨u, rfl, rx⟩ := vals1 r
  cases (show u = Value.ref a from rx)
  rcases hc with ⟨ha, q⟩ | ⟨ha, q⟩
  · obtain ⟨_, hs, vs, kv, hd⟩ := (show ObjOk X.prog X.w H s.heap a (.dK []) from I.hok a _ ha)
    cases kv
    obtain ⟨o, es, ep, e1, ⟨e2, _⟩, e3, _, e4, _⟩ := hd
    have e5 : es.toList = [] := by
      generalize es.toList = l at e4
      cases l with
      | nil => rfl
      | cons a b => cases e4
    have rd : Reads s.heap (.ref a) (.dict []) [a] := .dict (as := []) (bs := []) e1 e2 e3 (by rw [e5]; exact .nil) (by rw [e5]; exact .nil)
    refine repr_of_reads' rd (by decide +kernel) (fun _ z => ?_) hg (by show X.A.units + (1 + 1) < cLine; omega) (fun _ _ e => e) (fun h' t tk k => ?_) (by decide +kernel)
    · cases (List.mem_singleton.mp z)
      simp at hs
    · exact ⟨.str _, H, I.kept k, ⟨t, rfl⟩, q⟩
  · obtain ⟨_, hs, vs, kv, hd⟩ := (show ObjOk X.prog X.w H s.heap a (.dK [(.inl 1, .int 2)]) from I.hok a _ ha)
    obtain ⟨o, es, ep, e1, ⟨e2, _⟩, e3, _, e4, _⟩ := hd
    obtain ⟨k0, v0, rfl, hk0, rv⟩ : ∃ k0 v0, vs = [(k0, v0)] ∧ k0 = .inl 1 ∧ L2.RelV (.int 2) v0 := by
      cases kv with
      | cons rv kv' => cases kv'; exact ⟨_, _, rfl, rv.1.symm, rv.2⟩
    subst hk0
    obtain ⟨e0, he, hk, hv⟩ : ∃ e0 : DictEntry, es.toList = [e0] ∧ (mixKind X.prog X.w).is (.inl 1) e0.key = true ∧ e0.val = v0 := by
      generalize es.toList = l at e4
      cases l with
      | nil => cases e4
      | cons e l =>
        generalize hz : [((Sum.inl 1 : Key), v0)] = z at e4
        cases e4 with
        | cons h1 h2 h3 =>
          cases hz
          cases h3
          exact ⟨e, rfl, h1, h2⟩
    obtain ⟨t1, hk'⟩ : ∃ t1, e0.key = .int 1 t1 := by
      generalize e0.key = kk at hk
      change keyIs (.inl 1) kk = true at hk
      cases kk
      case int i t =>
        have : i = 1 := by first | exact of_decide_eq_true hk | (simp [keyIs] at hk; omega)
        exact ⟨t, by rw [this]⟩
      all_goals exact Bool.noConfusion hk
    obtain ⟨t2, rfl⟩ := rv
    have rd : Reads s.heap (.ref a) (.dict [(.int 1, .int 2)]) [a] := .dict (as := []) (bs := []) e1 e2 e3 (by rw [he]; show ReadsAll _ [e0.key] [.int 1] []; rw [hk']; exact .cons (.int 1 t1) .nil) (by rw [he]; show ReadsAll _ [e0.val] [.int 2] []; rw [hv]; exact .cons (.int 2 t2) .nil)
    refine repr_of_reads' rd (by decide +kernel) (fun _ z => ?_) hg (by show X.A.units + (1 + 1) < cLine; omega) (fun _ _ e => e) (fun h' t tk k => ?_) (by decide +kernel)
    · cases (List.mem_singleton.mp z)
      simp at hs
    · exact ⟨.str _, H, I.kept k, ⟨t, rfl⟩, q⟩
def rReprU (K : PySem.W.Frag) : List V → Hp → VK → Prop := fun xs H Q => rRepr K xs H Q ∨ rReprE xs H Q
theorem callReprU {X : Cx} {K : PySem.W.Frag} (hK : X.K = K) (hg : X.A.guards = some []) (hu : X.A.units + 64 < cLine) : CallR X (.builtin "repr") (rReprU K) := by
  subst hK
  exact CallR.or (call_reprD hg hu) (call_reprE hg hu)
theorem s_reprT {K : PySem.W.Frag} {H : Hp} {Q : VK} {p : Addr} {xs : List V} (hp : H p = some (.tup xs)) (hf : xs.all fitF = true) (hn : (PyData.tuple (xs.map flatD)).shown.length ≤ 1000) (h : Q (.str (PyData.tuple (xs.map flatD)).shown) H) : rRepr K [.ref p] H Q := by
  obtain ⟨h1, h2, h3, h4, h5⟩ := fit_list (K := K) (H := H) xs hf
  exact s_repr (.tup (.inl (.inl hp)) h5) h3 (by show _ + 1 ≤ _; omega) (Nat.le_trans hn (by decide +kernel)) h
theorem Od.repr {K : PySem.W.Frag} {H : Hp} {Q : VK} {v : V} {t : Str} (h : Od H v t) (q : Q (.str t) H) : rReprU K [v] H Q := by
  cases h with
  | non => exact .inl ⟨_, .none, rfl, .non, by decide +kernel, by decide +kernel, by decide +kernel, q⟩
  | bl b => exact .inl ⟨_, .bool b, rfl, .bl b, by cases b <;> decide +kernel, by cases b <;> decide +kernel, by cases b <;> decide +kernel, q⟩
  | str z h1 h3 => exact .inl ⟨_, .str z, rfl, .str z, rfl, Nat.zero_le _, Nat.le_trans h3 (by decide +kernel), q⟩
  | tup h1 h2 h3 => exact .inl (s_reprT h1 h2 h3 q)
  | lst h1 h2 h3 => exact .inl (s_reprF h1 h2 h3 q)
  | dic h1 => exact .inr ⟨_, rfl, .inl ⟨h1, q⟩⟩
end L3
end
section
namespace L3
open PySem PySem.Spec PyProof.Rows L2 LamX
/-! ## fractions: what Ratio(a, b) holds -/
def sgn (b : Int) : Int := if 0 < b then 1 else -1
def rO (a b : Int) : Int := sgn b * a / ((Nat.gcd a.natAbs b.natAbs : Nat) : Int)
def rU' (a b : Int) : Int := sgn b * b / ((Nat.gcd a.natAbs b.natAbs : Nat) : Int)
def flds (o u : Int) : List (Str × V) := putF "under" (.int u) (putF "over" (.int o) [])
theorem abs_nat (i : Int) : (if i < 0 then -i else i) = ((i.natAbs : Nat) : Int) := by split <;> omega
theorem sgn_mul {b x : Int} : IntMulOk (sgn b) x := mulL (by unfold sgn; split <;> decide)
theorem gcd_bits {a b : Int} {k : Nat} (hb : b ≠ 0) (h : b.natAbs < 2 ^ k) (hk : 0 < k) (h9 : k ≤ 9000) (i : Int) : CDivW i ((Nat.gcd a.natAbs b.natAbs : Nat) : Int) := by
  have hp : 0 < Nat.gcd a.natAbs b.natAbs := Nat.gcd_pos_of_pos_right _ (by omega)
  have hl : Nat.gcd a.natAbs b.natAbs ≤ b.natAbs := Nat.gcd_le_right _ (by omega)
  exact wide_div (b := k) (by omega) (by rw [Int.natAbs_natCast]; omega) hk h9
theorem sgn_self {b : Int} : sgn b * b = (b.natAbs : Int) := by unfold sgn; split <;> omega
theorem gcd_pos' {a b : Int} (hb : b ≠ 0) : (0 : Int) < ((Nat.gcd a.natAbs b.natAbs : Nat) : Int) := by
  have hp : 0 < Nat.gcd a.natAbs b.natAbs := Nat.gcd_pos_of_pos_right _ (by omega)
  omega
theorem gcd_dvd_l {a b : Int} : ((Nat.gcd a.natAbs b.natAbs : Nat) : Int) ∣ a := Int.ofNat_dvd_left.mpr (Nat.gcd_dvd_left _ _)
theorem gcd_dvd_r {a b : Int} : ((Nat.gcd a.natAbs b.natAbs : Nat) : Int) ∣ b := Int.ofNat_dvd_left.mpr (Nat.gcd_dvd_right _ _)
/-- the pair is the fraction in least terms, k times -/
theorem r_scale {a b : Int} (hb : b ≠ 0) : ∃ k : Int, k ≠ 0 ∧ a = rO a b * k ∧ b = rU' a b * k := by
  refine ⟨sgn b * ((Nat.gcd a.natAbs b.natAbs : Nat) : Int), ?_, ?_, ?_⟩
  · have := gcd_pos' (a := a) hb
    unfold sgn
    split <;> omega
  · obtain ⟨c, hc⟩ := gcd_dvd_l (a := a) (b := b)
    have hp := gcd_pos' (a := a) hb
    unfold rO
    generalize ((Nat.gcd a.natAbs b.natAbs : Nat) : Int) = g at hc hp ⊢
    have e : sgn b * a / g = sgn b * c := by
      rw [hc, show sgn b * (g * c) = g * (sgn b * c) by rw [Int.mul_left_comm], Int.mul_ediv_cancel_left _ (by omega)]
    rw [e, hc]
    have s1 : sgn b * sgn b = 1 := by unfold sgn; split <;> rfl
    calc g * c = (sgn b * sgn b) * (g * c) := by rw [s1, Int.one_mul]
      _ = sgn b * c * (sgn b * g) := by ac_rfl
  · obtain ⟨c, hc⟩ := gcd_dvd_r (a := a) (b := b)
    have hp := gcd_pos' (a := a) hb
    unfold rU'
    generalize ((Nat.gcd a.natAbs b.natAbs : Nat) : Int) = g at hc hp ⊢
    have e : sgn b * b / g = sgn b * c := by
      conv => lhs; rw [show sgn b * b = sgn b * (g * c) by rw [← hc], show sgn b * (g * c) = g * (sgn b * c) by rw [Int.mul_left_comm]]
      rw [Int.mul_ediv_cancel_left _ (by omega)]
    rw [e]
    have s1 : sgn b * sgn b = 1 := by unfold sgn; split <;> rfl
    calc b = g * c := hc
      _ = (sgn b * sgn b) * (g * c) := by rw [s1, Int.one_mul]
      _ = sgn b * c * (sgn b * g) := by ac_rfl
theorem sgn_mulK {b k : Int} (hb : b ≠ 0) (hk : k ≠ 0) : sgn (b * k) = sgn b * sgn k := by
  unfold sgn
  rcases Int.lt_or_gt_of_ne hb with h1 | h1 <;> rcases Int.lt_or_gt_of_ne hk with h2 | h2
  · rw [if_pos (Int.mul_pos_of_neg_of_neg h1 h2), if_neg (by omega), if_neg (by omega)]; rfl
  · rw [if_neg (by have := Int.mul_neg_of_neg_of_pos h1 h2; omega), if_neg (by omega), if_pos h2]; rfl
  · rw [if_neg (by have := Int.mul_neg_of_pos_of_neg h1 h2; omega), if_pos h1, if_neg (by omega)]; rfl
  · rw [if_pos (Int.mul_pos h1 h2), if_pos h1, if_pos h2]; rfl
theorem gcdK {a b k : Int} : ((Nat.gcd (a * k).natAbs (b * k).natAbs : Nat) : Int) = ((Nat.gcd a.natAbs b.natAbs : Nat) : Int) * (k.natAbs : Int) := by
  rw [Int.natAbs_mul, Int.natAbs_mul, Nat.gcd_mul_right, Int.natCast_mul]
theorem rO_mul {a b k : Int} (hb : b ≠ 0) (hk : k ≠ 0) : rO (a * k) (b * k) = rO a b := by
  unfold rO
  rw [gcdK, sgn_mulK hb hk]
  rw [show sgn b * sgn k * (a * k) = sgn b * a * (sgn k * k) by ac_rfl, sgn_self]
  exact Int.mul_ediv_mul_of_pos_left _ _ (by omega)
theorem rU_mul {a b k : Int} (hb : b ≠ 0) (hk : k ≠ 0) : rU' (a * k) (b * k) = rU' a b := by
  unfold rU'
  rw [gcdK, sgn_mulK hb hk]
  rw [show sgn b * sgn k * (b * k) = sgn b * b * (sgn k * k) by ac_rfl, sgn_self (b := k)]
  exact Int.mul_ediv_mul_of_pos_left _ _ (by omega)
theorem rU_pos {a b : Int} (hb : b ≠ 0) : 0 < rU' a b := by
  unfold rU'
  rw [sgn_self]
  have h1 : Nat.gcd a.natAbs b.natAbs ≤ b.natAbs := Nat.gcd_le_right _ (by omega)
  exact Int.ediv_pos_of_pos_of_dvd (by omega) (by omega) (Int.natCast_dvd_natCast.mpr (Nat.gcd_dvd_right _ _))
theorem rO_le {a b : Int} (hb : b ≠ 0) : (rO a b).natAbs ≤ a.natAbs := by
  obtain ⟨k, hk, h1, _⟩ := r_scale (a := a) hb
  conv => rhs; rw [h1, Int.natAbs_mul]
  exact Nat.le_mul_of_pos_right _ (by omega)
theorem rU_le {a b : Int} (hb : b ≠ 0) : (rU' a b).natAbs ≤ b.natAbs := by
  obtain ⟨k, hk, _, h1⟩ := r_scale (a := a) hb
  conv => rhs; rw [h1, Int.natAbs_mul]
  exact Nat.le_mul_of_pos_right _ (by omega)
theorem r_one (i : Int) : rO i 1 = i ∧ rU' i 1 = 1 := by
  unfold rO rU'
  rw [show (1 : Int).natAbs = 1 from rfl, Nat.gcd_one_right]
  exact ⟨by show 1 * i / 1 = i; omega, rfl⟩
theorem r_zero {b : Int} (hb : b ≠ 0) : rO 0 b = 0 ∧ rU' 0 b = 1 := by
  unfold rO rU'
  rw [show (0 : Int).natAbs = 0 from rfl, Nat.gcd_zero_left, sgn_self, Int.mul_zero, Int.zero_ediv]
  exact ⟨rfl, Int.ediv_self (by omega)⟩
/-- a fraction in least terms is its own -/
theorem r_idem {a b : Int} (hb : b ≠ 0) : rO (rO a b) (rU' a b) = rO a b ∧ rU' (rO a b) (rU' a b) = rU' a b := by
  obtain ⟨k, hk, h1, h2⟩ := r_scale (a := a) hb
  have hu := rU_pos (a := a) hb
  have e1 := rO_mul (a := rO a b) (b := rU' a b) (k := k) (by omega) hk
  have e2 := rU_mul (a := rO a b) (b := rU' a b) (k := k) (by omega) hk
  rw [← h1, ← h2] at e1 e2
  exact ⟨e1.symm, e2.symm⟩
/-! ## in the heap -/
def Rt (C : Addr) (H : Hp) (p : Addr) (o u : Int) : Prop := ∃ dx, H p = some (.ins C dx (flds o u))
/-- a number: a fraction or an int -/
def Nm (C : Addr) (H : Hp) (y : V) (o u : Int) : Prop := (∃ q, y = .ref q ∧ Rt C H q o u) ∨ (y = .int o ∧ u = 1)
theorem ins_tbl {C dx : Addr} {fs : List (Str × V)} : ∀ ps, HO.ins C dx fs ≠ .tbl ps := fun _ z => nomatch z
theorem Rt.exN {C : Addr} {H H' : Hp} {p : Addr} {o u : Int} (h : Rt C H p o u) (e : ExtN H H') : Rt C H' p o u := by
  obtain ⟨dx, h⟩ := h
  exact ⟨dx, e _ _ h ins_tbl⟩
theorem Ex.n {H H' : Hp} (e : Ex H H') : ExtN H H' := fun b o h _ => e b o h
theorem Rt.ex {C : Addr} {H H' : Hp} {p : Addr} {o u : Int} (h : Rt C H p o u) (e : Ex H H') : Rt C H' p o u := h.exN e.n
theorem Nm.exN {C : Addr} {H H' : Hp} {y : V} {o u : Int} (h : Nm C H y o u) (e : ExtN H H') : Nm C H' y o u := by
  rcases h with ⟨q, rfl, h⟩ | h
  · exact .inl ⟨q, rfl, h.exN e⟩
  · exact .inr h
theorem Nm.ex {C : Addr} {H H' : Hp} {y : V} {o u : Int} (h : Nm C H y o u) (e : Ex H H') : Nm C H' y o u := h.exN e.n
theorem Od.exN {H H' : Hp} {v : V} {t : Str} (h : Od H v t) (e : ExtN H H') : Od H' v t := by
  cases h with
  | non => exact .non
  | bl b => exact .bl b
  | str z h1 h3 => exact .str z h1 h3
  | tup h1 h2 h3 => exact .tup (e _ _ h1 fun _ z => nomatch z) h2 h3
  | lst h1 h2 h3 => exact .lst (e _ _ h1 fun _ z => nomatch z) h2 h3
  | dic h1 => exact .dic (e _ _ h1 fun _ z => nomatch z)
/-- within bounds -/
structure Bd (o u : Int) : Prop where
  ho : o.natAbs < 2 ^ 1000
  hu : u.natAbs < 2 ^ 1000
  pos : 0 < u
theorem Bd.ne {o u : Int} (b : Bd o u) : u ≠ 0 := by have := b.pos; omega
/-! ## promises -/
def spIsI : Sp := fun vs H Q _ => ∃ x, vs = [x] ∧ ((∃ i, x = .int i ∧ Q (.bl true) H) ∨ (∃ t, Od H x t ∧ Q (.bl false) H))
def spCommon : Sp := fun vs H Q _ => ∃ a b : Nat, vs = [.int a, .int b] ∧ Q (.int ((Nat.gcd a b : Nat) : Int)) H
def spRatio (C CB : Addr) : Sp := fun vs H Q E => ∃ (p dx : Addr) (x y : V), vs = [.ref p, x, y] ∧ H p = some (.ins C dx []) ∧
  ((∃ a b : Int, x = .int a ∧ y = .int b ∧ b ≠ 0 ∧ b.natAbs < 2 ^ 8000 ∧ ∀ H', (∀ c, c ≠ p → H' c = H c) → H' p = some (.ins C dx (flds (rO a b) (rU' a b))) → Q .non H') ∨
    (∃ t, Od H x t ∧ Rz CB "value" x H E) ∨ (∃ a : Int, x = .int a ∧ ((∃ t, Od H y t) ∨ y = .int 0) ∧ Rz CB "value" y H E))
def spTold (C CB : Addr) : Sp := fun vs H Q E => ∃ x, vs = [x] ∧ ((∃ o u, Nm C H x o u ∧ ∀ q H', Ex H H' → Rt C H' q o u → Q (.ref q) H') ∨ (∃ t, Od H x t ∧ Rz CB "value" x H E))
def spBin (g : Int → Int → Int → Int → Int) (C CB : Addr) : Sp := fun vs H Q E => ∃ p y o u, vs = [.ref p, y] ∧ Rt C H p o u ∧ Bd o u ∧
  ((∃ o' u', Nm C H y o' u' ∧ Bd o' u' ∧ ∀ q H', H q = none → Ex H H' → Rt C H' q (rO (g o u o' u') (u * u')) (rU' (g o u o' u') (u * u')) → Q (.ref q) H') ∨ (∃ t, Od H y t ∧ Rz CB "value" y H E))
def spNeg (C : Addr) : Sp := fun vs H Q _ => ∃ p o u, vs = [.ref p] ∧ Rt C H p o u ∧ Bd o u ∧ ∀ q H', H q = none → Ex H H' → Rt C H' q (rO (-o) u) (rU' (-o) u) → Q (.ref q) H'
def gAdd (o u o' u' : Int) : Int := o * u' + o' * u
def gDif (o u o' u' : Int) : Int := o * u' - o' * u
def gRdif (o u o' u' : Int) : Int := o' * u - o * u'
def gMul (o u o' u' : Int) : Int := o * o'
/-! ## the operators -/
structure OpK (op : Operator) : Prop where
  flI : fillsNumberSlot (.type "int") op.info.2 = pure true
  flB : fillsNumberSlot (.type "bool") op.info.2 = pure true
  dI : ∀ (P : Program) (w : World) (A : Around) (E' : Value → Shared → Prop) (v : V) (u : Value) (s : Shared) (a : Addr) (ox : Obj) (Q : Option Value → Shared → Prop), (∃ i, v = .int i) → RelV v u → s.heap.get? a = some ox → ox.data = .plain → Q none s →
    wpAny (model P w) A (tryMethod u (PySem.dunder op.info.2) (.ref a)) Q E' s
  dB : ∀ (P : Program) (w : World) (A : Around) (E' : Value → Shared → Prop) (v : V) (u : Value) (s : Shared) (a : Addr) (ox : Obj) (Q : Option Value → Shared → Prop), (∃ b, v = .bl b) → RelV v u → s.heap.get? a = some ox → ox.data = .plain → Q none s →
    wpAny (model P w) A (tryMethod u (PySem.dunder op.info.2) (.ref a)) Q E' s
theorem opK_add : OpK .Add := ⟨by rfl, by rfl, fun _ _ _ _ => decI_add, fun _ _ _ _ => decB_add⟩
theorem opK_sub : OpK .Sub := ⟨by rfl, by rfl, fun _ _ _ _ => decI_sub, fun _ _ _ _ => decB_sub⟩
theorem opK_mul : OpK .Mult := ⟨by rfl, by rfl, fun _ _ _ _ => decI_mul, fun _ _ _ _ => decB_mul⟩
theorem opK_floordiv : OpK .FloorDiv := ⟨by rfl, by rfl, fun _ _ _ _ => decI_floordiv, fun _ _ _ _ => decB_floordiv⟩
theorem opK_mod : OpK .Mod := ⟨by rfl, by rfl, fun _ _ _ _ => decI_mod, fun _ _ _ _ => decB_mod⟩
abbrev numTys : List String := ["int", "NoneType", "bool", "str", "tuple", "list", "dict"]
def othersB (K : PySem.W.Frag) (C : Addr) (op : Operator) : Bool := numTys.all fun T =>
  (PySem.W.findIn K (.type T) (PySem.dunder op.info.2)).isSome && ((PySem.W.findIn K (.type T) (dunderR op.info.2)).isSome && decide (PySem.W.subIn K (.type T) (.ref C) = some false))
def noSlotB (K : PySem.W.Frag) (op : Operator) (T : String) : Bool := match PySem.W.findIn K (.type T) (PySem.dunder op.info.2), PySem.W.findIn K (.type T) (dunderR op.info.2) with
  | some fo, some ro => !((fo.isSome && !isSeqSlot fo) || (ro.isSome && !isSeqSlot ro))
  | _, _ => false
theorem noSlot_of {K : PySem.W.Frag} {op : Operator} {T : String} (h : noSlotB K op T = true) : NoSlot K op T := by
  unfold noSlotB at h
  split at h
  · rename_i fo ro e1 e2
    exact ⟨fo, ro, e1, e2, by rw [Bool.not_eq_true'] at h; exact h⟩
  · cases h
/-- what the written part says of the class's operator -/
structure BinF (K : PySem.W.Frag) (C : Addr) (op : Operator) : Prop where
  self : PySem.W.selfFirst K C = true
  others : othersB K C op = true
  subI : PySem.W.subIn K (.ref C) (.type "int") = some false
  subB : PySem.W.subIn K (.ref C) (.type "bool") = some false
  inI : PySem.W.findIn K (.type "int") (dunderI op.info.2) = some none
  inC : PySem.W.findIn K (.ref C) (dunderI op.info.2) = some none
  inO : PySem.W.findIn K (.type "object") (dunderI op.info.2) = some none
  mro : (PySem.W.clsIn K C).map (·.mro) = some [.ref C, .type "object"]
structure BinM (P : Program) (w : World) (K : PySem.W.Frag) (mg : Str → Option Value) (base : Heap) (C : Addr) (op : Operator) (k : Nat) (sp spR : Sp) : Prop where
  f : BinF K C op
  ex : ∃ (f : Addr) (fd : FuncData) (g : Addr) (gd : FuncData), PySem.W.findIn K (.ref C) (PySem.dunder op.info.2) = some (some (.ref f)) ∧ PySem.W.findIn K (.ref C) (dunderR op.info.2) = some (some (.ref g)) ∧ PySem.W.isFn K (.ref f) = true ∧ PySem.W.isFn K (.ref g) = true ∧
    FnOk P w K mg base (L2.CX P w) k f fd ["self", "other"] sp ∧ L2.Binds K fd ["self", "other"] [] ∧ FnOk P w K mg base (L2.CX P w) k g gd ["self", "other"] spR ∧ L2.Binds K gd ["self", "other"] []
def OthV (C : Addr) (y : V) (H : Hp) : Prop := (∃ b dx fs, y = .ref b ∧ H b = some (.ins C dx fs)) ∨ (∃ i, y = .int i) ∨ ∃ t, Od H y t
/-- own first -/
def rOwn (C : Addr) (sp : Sp) (E : XK) : R2 := fun x y H Q => ∃ a dx fs, x = .ref a ∧ H a = some (.ins C dx fs) ∧ OthV C y H ∧ sp [x, y] H Q E
/-- an int, then own -/
def rInt (C : Addr) (sp : Sp) (E : XK) : R2 := fun x y H Q => ∃ a dx fs, y = .ref a ∧ H a = some (.ins C dx fs) ∧ (∃ i, x = .int i) ∧ sp [y, x] H Q E
/-- another value, then own -/
def rOdd (C : Addr) (sp : Sp) (E : XK) : R2 := fun x y H Q => ∃ a dx fs, y = .ref a ∧ H a = some (.ins C dx fs) ∧ (∃ t, Od H x t) ∧ sp [y, x] H Q E
def rBin (C : Addr) (sp spR : Sp) (E : XK) : R2 := fun x y H Q => rOwn C sp E x y H Q ∨ rInt C spR E x y H Q
section
variable {X : Cx} {C : Addr} {op : Operator} {k j : Nat} {sp spR : Sp} {E : XK}
theorem oth_of {K : PySem.W.Frag} {y : V} {H : Hp} (F : BinF K C op) (h : OthV C y H) : Other K C op y H := by
  have go : ∀ T, TyX K H y (.type T) → T ∈ numTys → Other K C op y H := fun T ty hm => by
    have q := List.all_eq_true.mp F.others T hm
    rw [Bool.and_eq_true, Bool.and_eq_true] at q
    obtain ⟨q1, q2, q3⟩ := q
    obtain ⟨fo, e1⟩ := Option.isSome_iff_exists.mp q1
    obtain ⟨ro, e2⟩ := Option.isSome_iff_exists.mp q2
    exact .inr ⟨T, fo, ro, ty, e1, e2, of_decide_eq_true q3⟩
  rcases h with h | ⟨i, rfl⟩ | ⟨t, h⟩
  · exact .inl h
  · exact go _ (.base (.int i)) (by simp)
  · obtain ⟨T, h1, h2⟩ := h.tyAll (K := K)
    exact go T h1 (List.mem_cons_of_mem _ h2)
theorem op1Own (B : BinM X.prog X.w X.K X.mg X.base C op k sp spR) (hr : Room j X.A) (hx : Passes (L2.CX X.prog X.w) X E) (hk : k ≤ j := by decide) : OpR1 X op (rOwn C sp E) := by
  obtain ⟨f, fd, g, gd, h1, h2, h3, h4, F, b, G, b'⟩ := B.ex
  intro pins s σ H x y v u Q I rx ry h
  obtain ⟨a, dx, fs, e, ea, ho, q⟩ := h
  exact op_own (f := f) ⟨B.f.self, h1, h3, _, h2, .inr ⟨g, rfl⟩⟩ F (hr.mono hk) b hx pins s σ H x y v u Q I rx ry ⟨a, dx, fs, e, ea, oth_of B.f ho, q⟩
theorem op1Int (o : OpK op) (B : BinM X.prog X.w X.K X.mg X.base C op k sp spR) (hr : Room j X.A) (hx : Passes (L2.CX X.prog X.w) X E) (hk : k ≤ j := by decide) : OpR1 X op (rInt C spR E) := by
  obtain ⟨f, fd, g, gd, h1, h2, h3, h4, F, b, G, b'⟩ := B.ex
  intro pins s σ H x y v u Q I rx ry h
  obtain ⟨a, dx, fs, e, ea, ho, q⟩ := h
  exact op_reflI (T := "int") (n := fun v => ∃ i, v = .int i) (fun _ _ n r s M => looksI n r s M) B.f.self h1 h2 h4 o.flI B.f.subI (fun v u s a ox Q => o.dI _ _ _ _ v u s a ox Q) G (hr.mono hk) b' hx pins s σ H x y v u Q I rx ry ⟨a, dx, fs, e, ea, ho, q⟩
theorem op1Odd (o : OpK op) (ns : (["NoneType", "str", "tuple", "list", "dict"].all fun T => noSlotB X.K op T) = true) (B : BinM X.prog X.w X.K X.mg X.base C op k sp spR) (hr : Room j X.A) (hx : Passes (L2.CX X.prog X.w) X E) (hk : k ≤ j := by decide) : OpR1 X op (rOdd C spR E) := by
  obtain ⟨f, fd, g, gd, h1, h2, h3, h4, F, b, G, b'⟩ := B.ex
  intro pins s σ H x y v u Q I rx ry h
  obtain ⟨a, dx, fs, e, ea, ⟨t, ho⟩, q⟩ := h
  rcases ho.ty (K := X.K) with ⟨c, hc⟩ | ⟨T, t1, t2⟩
  · exact op_reflI (T := "bool") (n := fun v => ∃ b, v = .bl b) (fun _ _ n r s M => looksB n r s M) B.f.self h1 h2 h4 o.flB B.f.subB (fun v u s a ox Q => o.dB _ _ _ _ v u s a ox Q) G (hr.mono hk) b' hx pins s σ H x y v u Q I rx ry ⟨a, dx, fs, e, ea, ⟨c, hc⟩, q⟩
  · exact op_refl B.f.self h1 h2 h4 G (hr.mono hk) b' hx pins s σ H x y v u Q I rx ry ⟨a, dx, fs, T, e, ea, t1, noSlot_of (List.all_eq_true.mp ns T t2), q⟩
theorem opBin (o : OpK op) (B : BinM X.prog X.w X.K X.mg X.base C op k sp spR) (hr : Room j X.A) (hx : Passes (L2.CX X.prog X.w) X E) (hk : k ≤ j := by decide) : OpR X (binaryOp op) (rBin C sp spR E) := ((op1Own B hr hx hk).or (op1Int o B hr hx hk)).bin
theorem opInp (o : OpK op) (B : BinM X.prog X.w X.K X.mg X.base C op k sp spR) (hr : Room j X.A) (hx : Passes (L2.CX X.prog X.w) X E) (hk : k ≤ j := by decide) : PIp X op (rBin C sp spR E) :=
  ((op1Own B hr hx hk).or (op1Int o B hr hx hk)).inp (C := C) (fun x y H Q h => by
    rcases h with ⟨a, dx, fs, e, ea, _⟩ | ⟨_, _, _, _, _, h, _⟩
    · exact .inr ⟨a, dx, fs, e, ea⟩
    · exact .inl h) B.f.inI B.f.mro B.f.inC B.f.inO
theorem opOwn (B : BinM X.prog X.w X.K X.mg X.base C op k sp spR) (hr : Room j X.A) (hx : Passes (L2.CX X.prog X.w) X E) (hk : k ≤ j := by decide) : OpR X (binaryOp op) (rOwn C sp E) := (op1Own B hr hx hk).bin
theorem opOdd (o : OpK op) (ns : (["NoneType", "str", "tuple", "list", "dict"].all fun T => noSlotB X.K op T) = true) (B : BinM X.prog X.w X.K X.mg X.base C op k sp spR) (hr : Room j X.A) (hx : Passes (L2.CX X.prog X.w) X E) (hk : k ≤ j := by decide) : OpR X (binaryOp op) (rOdd C spR E) := (op1Odd o ns B hr hx hk).bin
end
structure NegM (P : Program) (w : World) (K : PySem.W.Frag) (mg : Str → Option Value) (base : Heap) (C : Addr) (k : Nat) (sp : Sp) : Prop where
  ex : ∃ (f : Addr) (fd : FuncData), PySem.W.findIn K (.ref C) "__neg__" = some (some (.ref f)) ∧ PySem.W.isFn K (.ref f) = true ∧ FnOk P w K mg base (L2.CX P w) k f fd ["self"] sp ∧ L2.Binds K fd ["self"] []
def rNegR (C : Addr) (sp : Sp) (E : XK) : V → Hp → VK → Prop := fun x H Q => ∃ a dx fs, x = .ref a ∧ H a = some (.ins C dx fs) ∧ sp [x] H Q E
theorem unNeg {X : Cx} {C : Addr} {k j : Nat} {sp : Sp} {E : XK} (B : NegM X.prog X.w X.K X.mg X.base C k sp) (hr : Room j X.A) (hx : Passes (L2.CX X.prog X.w) X E) (hk : k ≤ j := by decide) : UnR X (unaryOp .USub) (rNegR C sp E) := by
  obtain ⟨f, fd, h1, h2, F, b⟩ := B.ex
  exact op_neg h1 h2 F (hr.mono hk) b hx
section
variable {C CB : Addr} {H : Hp} {Q : VK} {x y : V} {o u o' u' : Int} {g g' : Int → Int → Int → Int → Int} {E : XK}
/-- two numbers, one of them a fraction at least -/
theorem s_bin (hc : ∀ o u o' u', g' o' u' o u = g o u o' u') (n1 : Nm C H x o u) (n2 : Nm C H y o' u') (one : (∃ q, x = .ref q) ∨ ∃ q, y = .ref q) (b1 : Bd o u) (b2 : Bd o' u')
    (h : ∀ q H', H q = none → Ex H H' → Rt C H' q (rO (g o u o' u') (u * u')) (rU' (g o u o' u') (u * u')) → Q (.ref q) H') : rBin C (spBin g C CB) (spBin g' C CB) E x y H Q := by
  rcases n1 with ⟨q, rfl, r1⟩ | ⟨rfl, rfl⟩
  · refine .inl ?_
    obtain ⟨dx, e⟩ := id r1
    refine ⟨q, dx, _, rfl, e, ?_, q, y, o, u, rfl, r1, b1, .inl ⟨o', u', n2, b2, h⟩⟩
    rcases n2 with ⟨q', rfl, dx', e'⟩ | ⟨rfl, rfl⟩
    · exact .inl ⟨q', dx', _, rfl, e'⟩
    · exact .inr (.inl ⟨_, rfl⟩)
  · rcases n2 with ⟨q', rfl, r2⟩ | ⟨rfl, rfl⟩
    · refine .inr ?_
      obtain ⟨dx', e'⟩ := id r2
      refine ⟨q', dx', _, rfl, e', ⟨_, rfl⟩, q', _, o', u', rfl, r2, b2, .inl ⟨o, 1, .inr ⟨rfl, rfl⟩, b1, fun q H' hq he hr => h q H' hq he ?_⟩⟩
      rw [hc, Int.mul_comm u' 1] at hr
      exact hr
    · rcases one with ⟨q, e⟩ | ⟨q, e⟩ <;> cases e
theorem s_ownOdd {p : Addr} {t : Str} (r1 : Rt C H p o u) (b1 : Bd o u) (od : Od H y t) (h : Rz CB "value" y H E) : rOwn C (spBin g C CB) E (.ref p) y H Q := by
  obtain ⟨dx, e⟩ := id r1
  exact ⟨p, dx, _, rfl, e, .inr (.inr ⟨t, od⟩), p, y, o, u, rfl, r1, b1, .inr ⟨t, od, h⟩⟩
theorem s_oddOwn {p : Addr} {t : Str} (r1 : Rt C H p o u) (b1 : Bd o u) (od : Od H x t) (h : Rz CB "value" x H E) : rOdd C (spBin g C CB) E x (.ref p) H Q := by
  obtain ⟨dx, e⟩ := id r1
  exact ⟨p, dx, _, rfl, e, ⟨t, od⟩, p, x, o, u, rfl, r1, b1, .inr ⟨t, od, h⟩⟩
theorem s_neg {p : Addr} (r1 : Rt C H p o u) (b1 : Bd o u) (h : ∀ q H', H q = none → Ex H H' → Rt C H' q (rO (-o) u) (rU' (-o) u) → Q (.ref q) H') : rNegR C (spNeg C) E (.ref p) H Q := by
  obtain ⟨dx, e⟩ := id r1
  exact ⟨p, dx, _, rfl, e, p, o, u, rfl, r1, b1, h⟩
theorem cAdd (o u o' u' : Int) : gAdd o' u' o u = gAdd o u o' u' := by unfold gAdd; rw [Int.add_comm]
theorem cSub (o u o' u' : Int) : gRdif o' u' o u = gDif o u o' u' := rfl
theorem cMul (o u o' u' : Int) : gMul o' u' o u = gMul o u o' u' := by unfold gMul; rw [Int.mul_comm]
/-- Ratio(a, b), as a step -/
theorem s_mkR {a b : Int} (hb : b ≠ 0) (h8 : b.natAbs < 2 ^ 8000) (h : ∀ q H', H q = none → Ex H H' → Rt C H' q (rO a b) (rU' a b) → Q (.ref q) H') :
    ∀ p dx, H p = none → H dx = none → dx ≠ p → spRatio C CB (.ref p :: ([.int a, .int b] ++ [])) (upd (upd H dx (.own p)) p (.ins C dx [])) (fun v H2 => v = .non ∧ ap Q (.ref p) H2) E := fun p dx hp hd hn => by
  refine ⟨p, dx, _, _, rfl, upd_same, .inl ⟨a, b, rfl, rfl, hb, h8, fun H' h1 h2 => ⟨rfl, h p H' hp (fun c o e => ?_) ⟨dx, h2⟩⟩⟩⟩
  rw [h1 c (ne_of_none e hp), upd_ne (ne_of_none e hp), upd_ne (ne_of_none e hd)]
  exact e
theorem s_mkR1 {a : Int} (h : ∀ q H', H q = none → Ex H H' → Rt C H' q a 1 → Q (.ref q) H') :
    ∀ p dx, H p = none → H dx = none → dx ≠ p → spRatio C CB (.ref p :: ([.int a] ++ [.int 1])) (upd (upd H dx (.own p)) p (.ins C dx [])) (fun v H2 => v = .non ∧ ap Q (.ref p) H2) E := by
  refine s_mkR (a := a) (b := 1) (by decide) (by decide) fun q H' h1 h2 h3 => h q H' h1 h2 ?_
  rw [(r_one a).1, (r_one a).2] at h3
  exact h3
end
end L3
end
section
namespace L3
open PySem PySem.Spec PyProof.Rows L2 LamX
namespace KX
variable {X : Cx} {K : PySem.W.Frag} (hK : X.K = K)
include hK
theorem isiX : CallR X (.builtin "isinstance") (rIsiX K) := by subst hK; exact callIsiX
theorem xfV {e : Expr} {te : TE} {pos : Pos} {n : Str} (he : PE X e te) (hb : attributeBase e n X.env (eval e X.env) = eval e X.env) : PE X (.Attribute e n pos) (tXfV K n te) := by subst hK; exact pe_xfV he hb
theorem tup {es : List Expr} {k : Nat} {t : TGs} {n : Nat} {pos : Pos} (hc : X.calm = true) (h : PGs X es t)
    (hn : (assignEach es X.env).length = n := by rfl) (hst : (assignEach es X.env).findIdx? (·.1) = none := by rfl) : PG X (.Tuple es k pos) (gTup K n t) := by subst hK; exact pg_tup hc h hn hst
end KX
section
variable {K : PySem.W.Frag} {σ : L2.St} {H : Hp} {Q : VK} {D : Ends} {C : Addr} {o u : Int} {te ta : TE}
theorem s_par3 {i j l : Nat} {tt : TA} (h : tt σ H fun vs H1 => ∃ u v w, vs = [u, v, w] ∧ D.nx (((σ.set i (some u)).set j (some v)).set l (some w)) H1) : tPar3 i j l tt D σ H := h
theorem s_trip {R : V → V → V → Prop} {x y z : V} (h : R x y z) : ∃ u v w, [x, y, z] = [u, v, w] ∧ R u v w := ⟨x, y, z, rfl, h⟩
theorem s_aug {i : Nat} {ti : TIp} {x : V} (e : σ[i]? = some (some x)) (h : te σ H fun y H1 => ti x y H1 fun z H2 => D.nx (σ.set i (some z)) H2) : tAug i te ti D σ H := ⟨x, e, h⟩
theorem s_asgT' {n : Nat} {tg : TGs} (h : te σ H fun x H1 => gTup K n tg x σ H1 D.nx) : tAsg te (gTup K n tg) D σ H := h
theorem s_gT {a : Addr} {xs : List V} {n : Nat} {tg : TGs} {R : L2.St → Hp → Prop} (e : H a = some (.tup xs)) (hn : xs.length = n) (h : tg xs σ H R) : gTup K n tg (.ref a) σ H R := ⟨a, xs, rfl, .inl (.inl e), hn, h⟩
theorem s_gC {i : Nat} {v : V} {r : List V} {tg : TGs} {R : L2.St → Hp → Prop} (h : tg r (σ.set i (some v)) H R) : gCons (gName i) tg (v :: r) σ H R := ⟨v, r, rfl, h⟩
theorem s_gN {R : L2.St → Hp → Prop} (h : R σ H) : gNil [] σ H R := ⟨rfl, h⟩
theorem s_fldG {f : Str} (h : ta σ H fun x H1 => ∃ a C dx fs v, x = .ref a ∧ H1 a = some (.ins C dx fs) ∧ Cls K C ∧ NoAttr K C f ∧ fs.lookup f = some v ∧ Q v H1) : tFld K ta f σ H Q := h
theorem s_over {p : Addr} (c : Cls K C) (n : NoAttr K C "over") (r : Rt C H p o u) (h : Q (.int o) H) : ∃ a C dx fs v, V.ref p = .ref a ∧ H a = some (.ins C dx fs) ∧ Cls K C ∧ NoAttr K C "over" ∧ fs.lookup ("over" : Str) = some v ∧ Q v H := by
  obtain ⟨dx, e⟩ := r
  exact ⟨p, C, dx, _, _, rfl, e, c, n, rfl, h⟩
theorem s_under {p : Addr} (c : Cls K C) (n : NoAttr K C "under") (r : Rt C H p o u) (h : Q (.int u) H) : ∃ a C dx fs v, V.ref p = .ref a ∧ H a = some (.ins C dx fs) ∧ Cls K C ∧ NoAttr K C "under" ∧ fs.lookup ("under" : Str) = some v ∧ Q v H := by
  obtain ⟨dx, e⟩ := r
  exact ⟨p, C, dx, _, _, rfl, e, c, n, rfl, h⟩
theorem s_mulW {i j : Int} {k l : Nat} (hi : i.natAbs < 2 ^ k) (hj : j.natAbs < 2 ^ l) (hk : 0 < k) (hl : 0 < l) (hkl : k + l ≤ 900000) (h : Q (.int (i * j)) H) : rMulU (.int i) (.int j) H Q := s_mulI (wide_mul hi hj hk hl (by omega)).ok h
theorem s_rep {l : Addr} {xs : List V} {k : Int} (e : H l = some (.lst xs)) (h0 : 0 ≤ k) (h1 : k ≤ 1000) (hz : xs.length ≤ 1000) (h : ∀ p H2, H p = none → Ex H H2 → H2 p = some (.lst (List.replicate k.toNat xs).flatten) → Q (.ref p) H2) : rMulU (.ref l) (.int k) H Q :=
  .inr (.inr ⟨l, k, xs, rfl, rfl, e, by omega, by omega, Nat.le_trans (Nat.mul_le_mul hz (show k.toNat ≤ 1000 by omega)) (by decide +kernel), fun p hp => h p _ hp (ex_new hp) upd_same⟩)
theorem s_xfV {n : Str} (h : te σ H fun x H1 => ∃ (a C d : Addr) (fs : List (Str × V)) (v : V), x = .ref a ∧ H1 a = some (ExV a (.ref C) (some d)) ∧ H1 d = some (.xd fs) ∧ XfC K C ∧ PySem.W.findIn K (.ref C) n = some none ∧ fs.lookup n = some v ∧ Q v H1) : tXfV K n te σ H Q := h
/-- what the def that hears makes of the lambda's reading -/
def TTh (K : PySem.W.Frag) (CB : Addr) : (XK → Hp → VK → Prop) → Hp → VK → Prop := fun tl H Q =>
  tl (fun cls d H' => ∃ dd v t, cls = .ref CB ∧ d = some dd ∧ H' dd = some (.xd [("value", v)]) ∧ (∀ H2 (R : VK), Ex H' H2 → R (.str t) H2 → rReprU K [v] H2 R) ∧ ∀ p H2, H' p = none → Ex H' H2 → H2 p = some (.tup [.str "ratio", .str t]) → Q (.ref p) H2)
    H (fun v H' => [v].length ≤ sizeLine ∧ ∀ p, H' p = none → Q (.ref p) (upd H' p (.lst [v])))
/-- a def's data stay -/
theorem Dp.exN {H' : Hp} (e : ExtN H H') : ∀ (d : PyData) (v : V), (∀ a xs, SqL K H a xs → SqL K H' a xs) → (∀ a xs, SqT K H a xs → SqT K H' a xs) → Dp K H v d → Dp K H' v d := by
  intro d v h1 h2 h
  induction h using Dp.rec (motive_2 := fun vs ds _ => DpAll K H' vs ds) with
  | non => exact .non
  | bl b => exact .bl b
  | int i => exact .int i
  | str z => exact .str z
  | lst a _ b => exact .lst (h1 _ _ a) b
  | tup a _ b => exact .tup (h2 _ _ a) b
  | nil => exact .nil
  | cons _ _ a b => exact .cons a b
theorem penO_tbl {a c : Addr} {n : Nat} : ∀ ps, PenO a c n ≠ .tbl ps := fun _ z => by unfold PenO at z; cases z
theorem scO_tbl {c : Addr} {ns : List Int} : ∀ ps, ScO c ns ≠ .tbl ps := fun _ z => by unfold ScO at z; cases z
theorem Pen.exN {H' : Hp} {a : Addr} {n : Nat} (p : Pen H a n) (e : ExtN H H') : Pen H' a n := by
  obtain ⟨c, ns, h1, h2, h3⟩ := p
  exact ⟨c, ns, e _ _ h1 penO_tbl, e _ _ h2 scO_tbl, h3⟩
theorem Pen.ex {H' : Hp} {a : Addr} {n : Nat} (p : Pen H a n) (e : Ex H H') : Pen H' a n := Pen.exN p e.n
theorem Pen.at {a : Addr} {n : Nat} (p : Pen H a n) : ∃ c, H a = some (PenO a c n) := by
  obtain ⟨c, ns, h1, _⟩ := p
  exact ⟨c, h1⟩
theorem Wo.exN {T : List (Addr × Str)} {H' : Hp} {a : Addr} {n : Nat} (w : Wo T H a n) (e : ExtN H H') (t : Tabs T H') : Wo T H' a n := ⟨Pen.exN w.pen e, t⟩
/-- a tuple of two ints -/
def Pr (H : Hp) (v : V) (a b : Int) : Prop := ∃ p, v = .ref p ∧ H p = some (.tup [.int a, .int b])
theorem Pr.exN {H' : Hp} {v : V} {a b : Int} (h : Pr H v a b) (e : ExtN H H') : Pr H' v a b := by
  obtain ⟨p, rfl, h⟩ := h
  exact ⟨p, rfl, e _ _ h fun _ z => nomatch z⟩
theorem Pr.ex {H' : Hp} {v : V} {a b : Int} (h : Pr H v a b) (e : Ex H H') : Pr H' v a b := h.exN e.n
theorem Pr.dp {v : V} {a b : Int} (h : Pr H v a b) : Dp K H v (.tuple [.int a, .int b]) := by
  obtain ⟨p, rfl, h⟩ := h
  exact .tup (.inl (.inl h)) (.cons (.int a) (.cons (.int b) .nil))
end
end L3
end
section
namespace L3
open PySem PySem.Spec PyProof.Rows L2 LamX
section
variable {K : PySem.W.Frag} {σ : L2.St} {H H' : Hp} {Q : VK} {C CB : Addr}
/-! ## lists of pairs -/
inductive Prs (H : Hp) : List V → List (Int × Int) → Prop
  | nil : Prs H [] []
  | cons {v : V} {vs : List V} {q : Int × Int} {qs : List (Int × Int)} : Pr H v q.1 q.2 → Prs H vs qs → Prs H (v :: vs) (q :: qs)
theorem Prs.exN {vs : List V} {qs : List (Int × Int)} (h : Prs H vs qs) (e : ExtN H H') : Prs H' vs qs := by
  induction h with
  | nil => exact .nil
  | cons a _ b => exact .cons (a.exN e) b
theorem Prs.ex {vs : List V} {qs : List (Int × Int)} (h : Prs H vs qs) (e : Ex H H') : Prs H' vs qs := h.exN e.n
theorem Pr.up {v : V} {a b : Int} {D : Addr} {xs zs : List V} (h : Pr H v a b) (hd : H D = some (.lst xs)) : Pr (upd H D (.lst zs)) v a b := by
  obtain ⟨p, rfl, h⟩ := h
  refine ⟨p, rfl, ?_⟩
  rw [upd_ne (ne_of h hd (by intro z; cases z))]
  exact h
theorem Prs.up {vs : List V} {qs : List (Int × Int)} {D : Addr} {xs zs : List V} (h : Prs H vs qs) (hd : H D = some (.lst xs)) : Prs (upd H D (.lst zs)) vs qs := by
  induction h with
  | nil => exact .nil
  | cons a _ b => exact .cons (a.up hd) b
theorem Prs.get {vs : List V} {qs : List (Int × Int)} (h : Prs H vs qs) : ∀ {i : Nat} {x : V}, vs[i]? = some x → ∃ q, qs[i]? = some q ∧ Pr H x q.1 q.2 := by
  induction h with
  | nil => intro i x e; simp at e
  | cons a _ b =>
    intro i x e
    cases i with
    | zero => cases e; exact ⟨_, rfl, a⟩
    | succ i => exact b (by simpa using e)
theorem Prs.length {vs : List V} {qs : List (Int × Int)} (h : Prs H vs qs) : vs.length = qs.length := by
  induction h with
  | nil => rfl
  | cons _ _ b => simp [b]
theorem Prs.snoc {vs : List V} {qs : List (Int × Int)} {v : V} {q : Int × Int} (h : Prs H vs qs) (a : Pr H v q.1 q.2) : Prs H (vs ++ [v]) (qs ++ [q]) := by
  induction h with
  | nil => exact .cons a .nil
  | cons b _ c => exact .cons b c
def prD (qs : List (Int × Int)) : List PyData := qs.map fun q => .tuple [.int q.1, .int q.2]
theorem Prs.dp {vs : List V} {qs : List (Int × Int)} (h : Prs H vs qs) : DpAll K H vs (prD qs) := by
  induction h with
  | nil => exact .nil
  | cons a _ b => exact .cons a.dp b
/-- [f(a, b) for a, b in xs] where each f gives a pair -/
theorem lcPairs {a : Addr} {xs : List V} {qs : List (Int × Int)} {i j : Nat} {te : TE} {vs : List Nat} (f : Int × Int → Int × Int) (ok : Int × Int → Prop) (hok : ∀ q ∈ qs, ok q) (ha : H a = some (.lst xs)) (hp : Prs H xs qs) (hz : qs.length ≤ 1000)
    (hw : ∀ x y, wipe (((wipe σ vs).set i (some x)).set j (some y)) vs = wipe σ vs)
    (step : ∀ (q : Int × Int) (H1 : Hp) (R : VK), ok q → (∀ v H2, Ex H1 H2 → Pr H2 v (f q).1 (f q).2 → R v H2) → te (((wipe σ vs).set i (some (.int q.1))).set j (some (.int q.2))) H1 R)
    (k : ∀ D H2 zs, H D = none → Ex H H2 → H2 D = some (.lst zs) → Prs H2 zs (qs.map f) → Q (.ref D) H2) : LC (Itl K a) (gTup K 2 (gCons (gName i) (gCons (gName j) gNil))) tYes te vs σ H Q := by
  intro D hD
  have haD : a ≠ D := ne_of_none ha hD
  refine lc_list (K := K) (a := a) (xs := xs) (fun n H1 => Ex H H1 ∧ ∃ zs, H1 D = some (.lst zs) ∧ Prs H1 zs ((qs.take n).map f)) ⟨ex_new hD, [], upd_same, .nil⟩ (fun n H1 _ ⟨e, _⟩ => .inl (.inl (e _ _ ha))) (fun n x H1 hx ⟨e, zs, hz1, hzs⟩ => ?_) (fun H1 ⟨e, zs, hz1, hzs⟩ => ?_)
  · obtain ⟨q, hq, hpq⟩ := (hp.ex e).get hx
    obtain ⟨t, rfl, ht⟩ := hpq
    refine s_gT ht rfl (s_gC (s_gC (s_gN ⟨hw _ _, ?_⟩)))
    unfold tYes
    dsimp only
    refine iteT (step q H1 _ (hok q (List.mem_of_getElem? hq)) fun v H2 e2 hv => ?_)
    have hz2 := e2 _ _ hz1
    have hl : zs.length ≤ 1000 := by rw [hzs.length, List.length_map, List.length_take]; omega
    refine ⟨zs, hz2, Nat.lt_of_le_of_lt hl (by decide +kernel), fun b o hb => ?_, _, upd_same, ?_⟩
    · rw [upd_ne (ne_of_none hb hD)]; exact e2 _ _ (e _ _ hb)
    · have e5 : (qs.take (n + 1)).map f = (qs.take n).map f ++ [f q] := by
        rw [List.take_succ, hq, List.map_append]; rfl
      rw [e5]
      exact ((hzs.ex e2).up hz2).snoc (hv.up hz2)
  · rw [hp.length, List.take_of_length_le (Nat.le_refl _)] at hzs
    exact k D H1 zs hD e hz1 hzs
theorem s_lcL {te ta : TE} {g : TG} {tt : TT} {vs : List Nat} (h : ta σ H fun x H1 => ∃ a, x = .ref a ∧ (∃ xs, SqL K H1 a xs) ∧ LC (Itl K a) g tt te vs σ H1 Q) : tLc (iList K ta) g tt te vs σ H Q := h
/-! ## what is heard, one question after the other -/
theorem s_hear {Tt : List (Addr × Str)} {t : XK → TE} {v : V} {tx : Str} (ht : Tabs Tt H) (hod : Od H v tx) (ask : ∀ (E : XK) (H1 : Hp) (Q' : VK), ExtN H H1 → Od H1 v tx → Rz CB "value" v H1 E → t E σ H1 Q')
    (k : ∀ p H2, ExtN H H2 → Tabs Tt H2 → H2 p = some (.tup [.str "ratio", .str tx]) → Q (.ref p) H2) : tLam Tt (TTh K CB) t σ H Q := by
  refine ⟨ht, fun H1 e1 t1 => ?_⟩
  show t _ σ H1 _
  exact ask _ H1 _ e1 (hod.exN e1) fun d H' hd e' hx => ⟨d, v, tx, rfl, rfl, hx, fun H2 R e2 r => ((hod.exN e1).ex (e'.trans e2)).repr r, fun p H2 hp e2 h2 => k p H2 (e1.trans (e'.trans e2).n) (t1.ext (e'.trans e2)) h2⟩
/-- so far heard: the list l of equal pairs; the fraction m, the other value v with its text tx; the pen -/
structure Sx (Tt : List (Addr × Str)) (C l m p : Addr) (n : Nat) (o u : Int) (v : V) (tx : Str) (H : Hp) (xs : List V) : Prop where
  lst : H l = some (.lst xs)
  els : ∀ x ∈ xs, ∃ r, x = .ref r ∧ H r = some (.tup [.str "ratio", .str tx])
  rt : Rt C H m o u
  od : Od H v tx
  ne : v ≠ .ref l
  wo : Wo Tt H p n
  few : xs.length ≤ 1000
theorem Sx.exN {Tt : List (Addr × Str)} {l m p : Addr} {n : Nat} {o u : Int} {v : V} {tx : Str} {xs : List V} (S : Sx Tt C l m p n o u v tx H xs) (e : ExtN H H') (t : Tabs Tt H') : Sx Tt C l m p n o u v tx H' xs := by
  refine ⟨e _ _ S.lst (fun _ z => nomatch z), fun x hx => ?_, S.rt.exN e, S.od.exN e, S.ne, S.wo.exN e t, S.few⟩
  obtain ⟨r, h1, h2⟩ := S.els x hx
  exact ⟨r, h1, e _ _ h2 fun _ z => nomatch z⟩
theorem Od.up {v : V} {tx : Str} {l : Addr} {o : HO} (h : Od H v tx) (hn : v ≠ .ref l) : Od (upd H l o) v tx := by
  cases h with
  | non => exact .non
  | bl b => exact .bl b
  | str z h1 h3 => exact .str z h1 h3
  | tup h1 h2 h3 => exact .tup (by rw [upd_ne (fun z => hn (by rw [z]))]; exact h1) h2 h3
  | lst h1 h2 h3 => exact .lst (by rw [upd_ne (fun z => hn (by rw [z]))]; exact h1) h2 h3
  | dic h1 => exact .dic (by rw [upd_ne (fun z => hn (by rw [z]))]; exact h1)
theorem Od.keep {p : Addr} {v : V} {tx : Str} (h : Od H v tx) (hn : v ≠ .ref p) (k : ∀ b o, b ≠ p → H b = some o → H' b = some o) : Od H' v tx := by
  cases h with
  | non => exact .non
  | bl b => exact .bl b
  | str z h1 h3 => exact .str z h1 h3
  | tup h1 h2 h3 => exact .tup (k _ _ (fun z => hn (by rw [z])) h1) h2 h3
  | lst h1 h2 h3 => exact .lst (k _ _ (fun z => hn (by rw [z])) h1) h2 h3
  | dic h1 => exact .dic (k _ _ (fun z => hn (by rw [z])) h1)
theorem scO_lst {c : Addr} {ns : List Int} {xs : List V} : ScO c ns ≠ .lst xs := fun z => by unfold ScO at z; cases z
theorem penO_lst {a c : Addr} {n : Nat} {xs : List V} : PenO a c n ≠ .lst xs := fun z => by unfold PenO at z; cases z
theorem Wo.up {Tt : List (Addr × Str)} {p l : Addr} {n : Nat} {xs zs : List V} (w : Wo Tt H p n) (hl : H l = some (.lst xs)) : Wo Tt (upd H l (.lst zs)) p n := by
  obtain ⟨c, ns, h1, h2, h3⟩ := w.pen
  refine ⟨⟨c, ns, ?_, ?_, h3⟩, fun t ht => ?_⟩
  · rw [upd_ne (ne_of h1 hl penO_lst)]; exact h1
  · rw [upd_ne (ne_of h2 hl scO_lst)]; exact h2
  · obtain ⟨ps, g1, g2, g3⟩ := w.tabs t ht
    refine ⟨ps, by rw [upd_ne (ne_of g1 hl (by intro z; cases z))]; exact g1, g2, fun pos cv hc => ?_⟩
    obtain ⟨c, e1, e2⟩ := g3 pos cv hc
    exact ⟨c, e1, by rw [upd_ne (ne_of e2 hl (by intro z; unfold CodeO at z; cases z))]; exact e2⟩
theorem Sx.app {Tt : List (Addr × Str)} {l m p : Addr} {n : Nat} {o u : Int} {v : V} {tx : Str} {xs : List V} {r : Addr} (S : Sx Tt C l m p n o u v tx H xs) (h : H r = some (.tup [.str "ratio", .str tx])) (hf : xs.length < 1000) :
    Sx Tt C l m p n o u v tx (upd H l (.lst (xs ++ [.ref r]))) (xs ++ [.ref r]) := by
  have go : ∀ b zs, H b = some (.tup zs) → upd H l (.lst (xs ++ [.ref r])) b = some (.tup zs) := fun b zs e => by
    rw [upd_ne (ne_of e S.lst (by intro z; cases z))]; exact e
  refine ⟨upd_same, fun x hx => ?_, ?_, S.od.up S.ne, S.ne, S.wo.up S.lst, by simp; omega⟩
  · rcases List.mem_append.mp hx with hx | hx
    · obtain ⟨r', h1, h2⟩ := S.els x hx
      exact ⟨r', h1, go _ _ h2⟩
    · rw [List.mem_singleton.mp hx]
      exact ⟨r, rfl, go _ _ h⟩
  · obtain ⟨dx, e⟩ := S.rt
    exact ⟨dx, by rw [upd_ne (ne_of e S.lst (by intro z; cases z))]; exact e⟩
/-- l.append(heard(lambda: ..)) -/
theorem s_ask {Tt : List (Addr × Str)} {l m p : Addr} {n il : Nat} {o u : Int} {v : V} {tx : Str} {xs : List V} {t : XK → TE} {D : Ends} (S : Sx Tt C l m p n o u v tx H xs) (hf : xs.length < 1000) (hl : σ[il]? = some (some (.ref l)))
    (ask : ∀ (E : XK) (H1 : Hp) (Q' : VK), Rt C H1 m o u → Od H1 v tx → Rz CB "value" v H1 E → t E σ H1 Q')
    (k : ∀ H2 r, Sx Tt C l m p n o u v tx H2 (xs ++ [.ref r]) → D.nx σ H2) : tDrop (tBM K "list" rAppend (tVar il) (tCons (tLam Tt (TTh K CB) t) tNil)) D σ H := by
  refine ⟨.ref l, hl, .inl ⟨rfl, _, .inl (.inl S.lst)⟩, ?_⟩
  refine s_hear S.wo.tabs S.od (fun E H1 Q' e1 h1 rz => ask E H1 Q' (S.rt.exN e1) h1 rz) fun r H2 e2 t2 h2 => ?_
  have S2 := S.exN e2 t2
  exact ⟨l, xs, .ref r, rfl, rfl, S2.lst, Nat.lt_of_lt_of_le hf (by decide +kernel), k _ r (S2.app h2 hf)⟩
theorem Sx.dp {Tt : List (Addr × Str)} {l m p : Addr} {n : Nat} {o u : Int} {v : V} {tx : Str} : ∀ {xs : List V}, (∀ x ∈ xs, ∃ r, x = .ref r ∧ H r = some (.tup [.str "ratio", .str tx])) → DpAll K H xs (List.replicate xs.length (.tuple [.str "ratio", .str tx]))
  | [], _ => .nil
  | x :: r, h => by
    obtain ⟨q, rfl, hq⟩ := h x List.mem_cons_self
    exact .cons (.tup (.inl (.inl hq)) (.cons (.str _) (.cons (.str _) .nil))) (Sx.dp (Tt := Tt) (l := l) (m := m) (p := p) (n := n) (o := o) (u := u) (v := v) fun y hy => h y (List.mem_cons_of_mem _ hy))
end
end L3
end
section
namespace L3
open PySem PySem.Spec PySem.Calls PyProof.Rows PySem.W
section
variable {M : Model} {A : Around} {E : Value → Shared → Prop} {s : Shared} {x l C : Addr} {ox : Obj} {i : Int} {b : Bool} {t : Tok} {z : Str} {P : Fin → Shared → Prop}
/-! ## a comparison's slot of a built-in type declines an own object -/
theorem dc_int_lt (e : s.heap.get? x = some ox) (hd : ox.data = .plain) (h : P (.done (.ret .notImplemented)) s) : wpAny M A (Builtin.«int.__lt__» ⟨[.int i t, .ref x], []⟩) P E s := by
  obtain ⟨hp, g, d, tk, os⟩ := s
  wp_walk
  try (rw [hd]; wp_walk)
  exact h
theorem dc_int_le (e : s.heap.get? x = some ox) (hd : ox.data = .plain) (h : P (.done (.ret .notImplemented)) s) : wpAny M A (Builtin.«int.__le__» ⟨[.int i t, .ref x], []⟩) P E s := by
  obtain ⟨hp, g, d, tk, os⟩ := s
  wp_walk
  try (rw [hd]; wp_walk)
  exact h
theorem dc_int_gt (e : s.heap.get? x = some ox) (hd : ox.data = .plain) (h : P (.done (.ret .notImplemented)) s) : wpAny M A (Builtin.«int.__gt__» ⟨[.int i t, .ref x], []⟩) P E s := by
  obtain ⟨hp, g, d, tk, os⟩ := s
  wp_walk
  try (rw [hd]; wp_walk)
  exact h
theorem dc_int_ge (e : s.heap.get? x = some ox) (hd : ox.data = .plain) (h : P (.done (.ret .notImplemented)) s) : wpAny M A (Builtin.«int.__ge__» ⟨[.int i t, .ref x], []⟩) P E s := by
  obtain ⟨hp, g, d, tk, os⟩ := s
  wp_walk
  try (rw [hd]; wp_walk)
  exact h
theorem dc_int_eq (e : s.heap.get? x = some ox) (hd : ox.data = .plain) (h : P (.done (.ret .notImplemented)) s) : wpAny M A (Builtin.«int.__eq__» ⟨[.int i t, .ref x], []⟩) P E s := by
  obtain ⟨hp, g, d, tk, os⟩ := s
  wp_walk
  try (rw [hd]; wp_walk)
  exact h
theorem dc_int_ne (e : s.heap.get? x = some ox) (hd : ox.data = .plain) (h : P (.done (.ret .notImplemented)) s) : wpAny M A (Builtin.«int.__ne__» ⟨[.int i t, .ref x], []⟩) P E s := by
  obtain ⟨hp, g, d, tk, os⟩ := s
  wp_walk
  try (rw [hd]; wp_walk)
  exact h
theorem dc_bool_lt (e : s.heap.get? x = some ox) (hd : ox.data = .plain) (h : P (.done (.ret .notImplemented)) s) : wpAny M A (Builtin.«int.__lt__» ⟨[.bool b, .ref x], []⟩) P E s := by
  obtain ⟨hp, g, d, tk, os⟩ := s
  wp_walk
  try (rw [hd]; wp_walk)
  exact h
theorem dc_str_lt (e : s.heap.get? x = some ox) (hd : ox.data = .plain) (h : P (.done (.ret .notImplemented)) s) : wpAny M A (Builtin.«str.__lt__» ⟨[.str z t, .ref x], []⟩) P E s := by
  obtain ⟨hp, g, d, tk, os⟩ := s
  wp_walk
  try (rw [hd]; wp_walk)
  exact h
theorem dc_NoneType_lt (h : P (.done (.ret .notImplemented)) s) : wpAny M A (Builtin.«NoneType.__lt__» ⟨[.none, .ref x], []⟩) P E s := by
  obtain ⟨hp, g, d, tk, os⟩ := s
  wp_walk
  exact h
theorem dc_tuple_lt (e : s.heap.get? x = some ox) (hc : ox.cls = .ref C) (L : Looks M s.heap (isSubtype (.ref C) (.type "tuple")) false) (h : P (.done (.ret .notImplemented)) s) : wpAny M A (Builtin.«tuple.__lt__» ⟨[.ref l, .ref x], []⟩) P E s := by
  obtain ⟨hp, g, d, tk, os⟩ := s
  wp_walk
  rw [hc]
  refine L.at ?_
  wp_walk
  exact h
theorem dc_list_lt (e : s.heap.get? x = some ox) (hc : ox.cls = .ref C) (L : Looks M s.heap (isSubtype (.ref C) (.type "list")) false) (h : P (.done (.ret .notImplemented)) s) : wpAny M A (Builtin.«list.__lt__» ⟨[.ref l, .ref x], []⟩) P E s := by
  obtain ⟨hp, g, d, tk, os⟩ := s
  wp_walk
  rw [hc]
  refine L.at ?_
  wp_walk
  exact h
theorem dc_dict_lt (h : P (.done (.ret .notImplemented)) s) : wpAny M A (Builtin.«dict.__lt__» ⟨[.ref l, .ref x], []⟩) P E s := by
  obtain ⟨hp, g, d, tk, os⟩ := s
  wp_walk
  exact h
theorem dc_bool_ge (e : s.heap.get? x = some ox) (hd : ox.data = .plain) (h : P (.done (.ret .notImplemented)) s) : wpAny M A (Builtin.«int.__ge__» ⟨[.bool b, .ref x], []⟩) P E s := by
  obtain ⟨hp, g, d, tk, os⟩ := s
  wp_walk
  try (rw [hd]; wp_walk)
  exact h
theorem dc_str_ge (e : s.heap.get? x = some ox) (hd : ox.data = .plain) (h : P (.done (.ret .notImplemented)) s) : wpAny M A (Builtin.«str.__ge__» ⟨[.str z t, .ref x], []⟩) P E s := by
  obtain ⟨hp, g, d, tk, os⟩ := s
  wp_walk
  try (rw [hd]; wp_walk)
  exact h
theorem dc_NoneType_ge (h : P (.done (.ret .notImplemented)) s) : wpAny M A (Builtin.«NoneType.__ge__» ⟨[.none, .ref x], []⟩) P E s := by
  obtain ⟨hp, g, d, tk, os⟩ := s
  wp_walk
  exact h
theorem dc_tuple_ge (e : s.heap.get? x = some ox) (hc : ox.cls = .ref C) (L : Looks M s.heap (isSubtype (.ref C) (.type "tuple")) false) (h : P (.done (.ret .notImplemented)) s) : wpAny M A (Builtin.«tuple.__ge__» ⟨[.ref l, .ref x], []⟩) P E s := by
  obtain ⟨hp, g, d, tk, os⟩ := s
  wp_walk
  rw [hc]
  refine L.at ?_
  wp_walk
  exact h
theorem dc_list_ge (e : s.heap.get? x = some ox) (hc : ox.cls = .ref C) (L : Looks M s.heap (isSubtype (.ref C) (.type "list")) false) (h : P (.done (.ret .notImplemented)) s) : wpAny M A (Builtin.«list.__ge__» ⟨[.ref l, .ref x], []⟩) P E s := by
  obtain ⟨hp, g, d, tk, os⟩ := s
  wp_walk
  rw [hc]
  refine L.at ?_
  wp_walk
  exact h
theorem dc_dict_ge (h : P (.done (.ret .notImplemented)) s) : wpAny M A (Builtin.«dict.__ge__» ⟨[.ref l, .ref x], []⟩) P E s := by
  obtain ⟨hp, g, d, tk, os⟩ := s
  wp_walk
  exact h
theorem dc_bool_eq (e : s.heap.get? x = some ox) (hd : ox.data = .plain) (h : P (.done (.ret .notImplemented)) s) : wpAny M A (Builtin.«int.__eq__» ⟨[.bool b, .ref x], []⟩) P E s := by
  obtain ⟨hp, g, d, tk, os⟩ := s
  wp_walk
  try (rw [hd]; wp_walk)
  exact h
theorem dc_str_eq (e : s.heap.get? x = some ox) (hd : ox.data = .plain) (h : P (.done (.ret .notImplemented)) s) : wpAny M A (Builtin.«str.__eq__» ⟨[.str z t, .ref x], []⟩) P E s := by
  obtain ⟨hp, g, d, tk, os⟩ := s
  wp_walk
  try (rw [hd]; wp_walk)
  exact h
theorem dc_NoneType_eq (h : P (.done (.ret .notImplemented)) s) : wpAny M A (Builtin.«NoneType.__eq__» ⟨[.none, .ref x], []⟩) P E s := by
  obtain ⟨hp, g, d, tk, os⟩ := s
  wp_walk
  exact h
theorem dc_tuple_eq (e : s.heap.get? x = some ox) (hc : ox.cls = .ref C) (L : Looks M s.heap (isSubtype (.ref C) (.type "tuple")) false) (h : P (.done (.ret .notImplemented)) s) : wpAny M A (Builtin.«tuple.__eq__» ⟨[.ref l, .ref x], []⟩) P E s := by
  obtain ⟨hp, g, d, tk, os⟩ := s
  wp_walk
  rw [hc]
  refine L.at ?_
  wp_walk
  exact h
theorem dc_list_eq (e : s.heap.get? x = some ox) (hc : ox.cls = .ref C) (L : Looks M s.heap (isSubtype (.ref C) (.type "list")) false) (h : P (.done (.ret .notImplemented)) s) : wpAny M A (Builtin.«list.__eq__» ⟨[.ref l, .ref x], []⟩) P E s := by
  obtain ⟨hp, g, d, tk, os⟩ := s
  wp_walk
  rw [hc]
  refine L.at ?_
  wp_walk
  exact h
theorem dc_dict_eq (e : s.heap.get? x = some ox) (hc : ox.cls = .ref C) (L : Looks M s.heap (isSubtype (.ref C) (.type "dict")) false) (h : P (.done (.ret .notImplemented)) s) : wpAny M A (Builtin.«dict.__eq__» ⟨[.ref l, .ref x], []⟩) P E s := by
  obtain ⟨hp, g, d, tk, os⟩ := s
  wp_walk
  rw [hc]
  refine L.at ?_
  wp_walk
  exact h
end
section
variable {prog : Program} {w : World} {A : Around} {E : Value → Shared → Prop} {s : Shared} {K : Frag} {x C f : Addr} {ox : Obj} {od : Option Obj} {T id : String} {name : Str} {B : Builtin} {u : Value} {op : CmpOp}
theorem cdec (slot : Slot T name id) (hT : s.TypeIs u T) (entry : entryFor table id = some B) (args : argsOk id ⟨[u, .ref x], []⟩)
    (hB : ∀ {M : Model} {A : Around} {E : Value → Shared → Prop} {P : Fin → Shared → Prop}, P (.done (.ret .notImplemented)) s → wpAny M A (B ⟨[u, .ref x], []⟩) P E s) (Q : Option Value → Shared → Prop) (h : Q none s) :
    wpAny (model prog w) A (tryCompare u name (.ref x)) Q E s := by
  unfold tryCompare
  refine wpAny_bind (wpAny_callSpecialIfBound?_slot hT slot ?_)
  refine wpAny_call (codeAny_call_builtin slot.plain entry (slot.check _ _ _ _ _ _ _ _ hT args (hB ?_)))
  exact wpAny_pure h
/-- a value of a built-in type, as the machine has it -/
inductive LU (h : Heap) : Value → String → Prop
  | non : LU h .none "NoneType"
  | bl (b : Bool) : LU h (.bool b) "bool"
  | str (z : Str) (t : Tok) : LU h (.str z t) "str"
  | tup {l : Addr} {o : Obj} : h.get? l = some o → o.cls = .type "tuple" → LU h (.ref l) "tuple"
  | lst {l : Addr} {o : Obj} : h.get? l = some o → o.cls = .type "list" → LU h (.ref l) "list"
  | dic {l : Addr} {o : Obj} : h.get? l = some o → o.cls = .type "dict" → LU h (.ref l) "dict"
theorem LU.is (h : LU s.heap u T) : s.TypeIs u T := by
  cases h with
  | non => exact rfl
  | bl b => exact rfl
  | str z t => exact rfl
  | tup e c => exact ⟨_, e, c⟩
  | lst e c => exact ⟨_, e, c⟩
  | dic e c => exact ⟨_, e, c⟩
def DecC (op : CmpOp) : Prop := ∀ (prog : Program) (w : World) (A : Around) (E : Value → Shared → Prop) (s : Shared) (x C : Addr) (ox : Obj) (u : Value) (T : String), LU s.heap u T → s.heap.get? x = some ox → ox.cls = .ref C → ox.data = .plain →
  (∀ (M : Model) (T : String), T ∈ ["tuple", "list", "dict"] → Looks M s.heap (isSubtype (.ref C) (.type T)) false) → ∀ Q : Option Value → Shared → Prop, Q none s → wpAny (model prog w) A (tryCompare u (cmpInfo op).2.1 (.ref x)) Q E s
theorem dec_lt : DecC .Lt := fun prog w A E s x C ox u T hu e hc hd L Q h => by
  have ht := hu.is
  cases hu with
  | non => exact cdec PySem.F.slot_NoneType_lt ht PySem.F.entry_NoneType_lt (PySem.F.args_NoneType_lt_2 _ _) (fun h => dc_NoneType_lt h) Q h
  | bl b => exact cdec PySem.F.slot_bool_lt ht PySem.F.entry_int_lt (PySem.F.args_int_lt_2 _ _) (fun h => dc_bool_lt e hd h) Q h
  | str z t => exact cdec PySem.F.slot_str_lt ht PySem.F.entry_str_lt (PySem.F.args_str_lt_2 _ _) (fun h => dc_str_lt e hd h) Q h
  | tup e1 c1 => exact cdec PySem.F.slot_tuple_lt ht PySem.F.entry_tuple_lt (PySem.F.args_tuple_lt_2 _ _) (fun {M} {_} {_} {_} h => dc_tuple_lt e hc (L M _ (by simp)) h) Q h
  | lst e1 c1 => exact cdec PySem.F.slot_list_lt ht PySem.F.entry_list_lt (PySem.F.args_list_lt_2 _ _) (fun {M} {_} {_} {_} h => dc_list_lt e hc (L M _ (by simp)) h) Q h
  | dic e1 c1 => exact cdec PySem.F.slot_dict_lt ht PySem.F.entry_dict_lt (PySem.F.args_dict_lt_2 _ _) (fun h => dc_dict_lt h) Q h
theorem dec_ge : DecC .GtE := fun prog w A E s x C ox u T hu e hc hd L Q h => by
  have ht := hu.is
  cases hu with
  | non => exact cdec PySem.F.slot_NoneType_ge ht PySem.F.entry_NoneType_ge (PySem.F.args_NoneType_ge_2 _ _) (fun h => dc_NoneType_ge h) Q h
  | bl b => exact cdec PySem.F.slot_bool_ge ht PySem.F.entry_int_ge (PySem.F.args_int_ge_2 _ _) (fun h => dc_bool_ge e hd h) Q h
  | str z t => exact cdec PySem.F.slot_str_ge ht PySem.F.entry_str_ge (PySem.F.args_str_ge_2 _ _) (fun h => dc_str_ge e hd h) Q h
  | tup e1 c1 => exact cdec PySem.F.slot_tuple_ge ht PySem.F.entry_tuple_ge (PySem.F.args_tuple_ge_2 _ _) (fun {M} {_} {_} {_} h => dc_tuple_ge e hc (L M _ (by simp)) h) Q h
  | lst e1 c1 => exact cdec PySem.F.slot_list_ge ht PySem.F.entry_list_ge (PySem.F.args_list_ge_2 _ _) (fun {M} {_} {_} {_} h => dc_list_ge e hc (L M _ (by simp)) h) Q h
  | dic e1 c1 => exact cdec PySem.F.slot_dict_ge ht PySem.F.entry_dict_ge (PySem.F.args_dict_ge_2 _ _) (fun h => dc_dict_ge h) Q h
theorem dec_eq : DecC .Eq := fun prog w A E s x C ox u T hu e hc hd L Q h => by
  have ht := hu.is
  cases hu with
  | non => exact cdec PySem.F.slot_NoneType_eq ht PySem.F.entry_NoneType_eq (PySem.F.args_NoneType_eq_2 _ _) (fun h => dc_NoneType_eq h) Q h
  | bl b => exact cdec PySem.F.slot_bool_eq ht PySem.F.entry_int_eq (PySem.F.args_int_eq_2 _ _) (fun h => dc_bool_eq e hd h) Q h
  | str z t => exact cdec PySem.F.slot_str_eq ht PySem.F.entry_str_eq (PySem.F.args_str_eq_2 _ _) (fun h => dc_str_eq e hd h) Q h
  | tup e1 c1 => exact cdec PySem.F.slot_tuple_eq ht PySem.F.entry_tuple_eq (PySem.F.args_tuple_eq_2 _ _) (fun {M} {_} {_} {_} h => dc_tuple_eq e hc (L M _ (by simp)) h) Q h
  | lst e1 c1 => exact cdec PySem.F.slot_list_eq ht PySem.F.entry_list_eq (PySem.F.args_list_eq_2 _ _) (fun {M} {_} {_} {_} h => dc_list_eq e hc (L M _ (by simp)) h) Q h
  | dic e1 c1 => exact cdec PySem.F.slot_dict_eq ht PySem.F.entry_dict_eq (PySem.F.args_dict_eq_2 _ _) (fun {M} {_} {_} {_} h => dc_dict_eq e hc (L M _ (by simp)) h) Q h
def DecN (op : CmpOp) : Prop := ∀ (prog : Program) (w : World) (A : Around) (E : Value → Shared → Prop) (s : Shared) (x : Addr) (ox : Obj) (i : Int) (t : Tok), s.heap.get? x = some ox → ox.data = .plain →
  ∀ Q : Option Value → Shared → Prop, Q none s → wpAny (model prog w) A (tryCompare (.int i t) (cmpInfo op).2.1 (.ref x)) Q E s
theorem decN_lt : DecN .Lt := fun prog w A E s x ox i t e hd Q h => cdec PySem.F.slot_int_lt (typeIs_int s i t) PySem.F.entry_int_lt (PySem.F.args_int_lt_2 _ _) (fun h => dc_int_lt e hd h) Q h
theorem decN_le : DecN .LtE := fun prog w A E s x ox i t e hd Q h => cdec PySem.F.slot_int_le (typeIs_int s i t) PySem.F.entry_int_le (PySem.F.args_int_le_2 _ _) (fun h => dc_int_le e hd h) Q h
theorem decN_gt : DecN .Gt := fun prog w A E s x ox i t e hd Q h => cdec PySem.F.slot_int_gt (typeIs_int s i t) PySem.F.entry_int_gt (PySem.F.args_int_gt_2 _ _) (fun h => dc_int_gt e hd h) Q h
theorem decN_ge : DecN .GtE := fun prog w A E s x ox i t e hd Q h => cdec PySem.F.slot_int_ge (typeIs_int s i t) PySem.F.entry_int_ge (PySem.F.args_int_ge_2 _ _) (fun h => dc_int_ge e hd h) Q h
theorem decN_eq : DecN .Eq := fun prog w A E s x ox i t e hd Q h => cdec PySem.F.slot_int_eq (typeIs_int s i t) PySem.F.entry_int_eq (PySem.F.args_int_eq_2 _ _) (fun h => dc_int_eq e hd h) Q h
theorem decN_ne : DecN .NotEq := fun prog w A E s x ox i t e hd Q h => cdec PySem.F.slot_int_ne (typeIs_int s i t) PySem.F.entry_int_ne (PySem.F.args_int_ne_2 _ _) (fun h => dc_int_ne e hd h) Q h
/-- an own one asked -/
theorem try_own {Q : Value → Shared → Prop} (X : K.In s.heap) (I : InstAt s.heap x ox C od) (hs : findIn K (.ref C) name = some (some (.ref f))) (hf : isFn K (.ref f) = true) (h : wpAny (model prog w) A (call (.ref f) [.ref x, u]) (PySem.W.CmpBack Q) E s) :
    wpAny (model prog w) A (tryCompare (.ref x) name u) (fun r s' => ∃ v, r = some v ∧ Q v s') E s := by
  unfold tryCompare
  refine wpAny_bind (ifBound_K X I hs hf (wpAny_mono h (fun v s' hv => ?_) fun _ _ e => e))
  cases v <;> first | exact hv.elim | exact wpAny_pure ⟨_, rfl, hv⟩
/-- one of a built-in type, then an own one -/
theorem cmp_refl {Q : Value → Shared → Prop} {r : Str} (hu : A.units < cLine) (X : K.In s.heap) (I : InstAt s.heap x ox C od) (hT : s.TypeIs u T) (hsub : subIn K (.ref C) (.type T) = some false) (hr : (cmpInfo op).2.2 = r)
    (dec : ∀ Q : Option Value → Shared → Prop, Q none s → wpAny (model prog w) A (tryCompare u (cmpInfo op).2.1 (.ref x)) Q E s)
    (one : wpAny (model prog w) A (tryCompare (.ref x) r u) (fun r s' => ∃ v, r = some v ∧ Q v s') E s) : wpAny (model prog w) A (richCompare op u (.ref x)) Q E s := by
  have hty : ∀ {Q : Value → Shared → Prop}, Q (.type T) s → wpAny (model prog w) A (typeOf u) Q E s := fun {Q} q => by
    cases u <;> first | (obtain ⟨o, h1, h2⟩ := hT; exact wpAny_typeOf_ref h1 (by rw [h2]; exact q)) | (rw [show typeOf _ = pure (Value.type T) from hT]; exact wpAny_pure q)
  unfold richCompare
  simp only [hT.oneThing_none]
  refine wpAny_holding (wpAny_bind (wpAny_cRoomFor hu ?_))
  refine wpAny_bind (hty (wpAny_bind (I.type.here ?_)))
  rw [if_pos (show (Value.type T != Value.ref C) = true from rfl)]
  refine wpAny_bind ((looks_subIn X hsub).here ?_)
  simp only [Bool.false_eq_true, if_false]
  refine wpAny_bind (dec _ ?_)
  simp only [Bool.not_false, if_true]
  rw [hr]
  refine wpAny_bind (wpAny_mono one (fun r s' z => ?_) fun _ _ e => e)
  obtain ⟨v, rfl, hq⟩ := z
  exact wpAny_pure hq
/-- != by the class's own == -/
theorem try_ne {Q : Value → Shared → Prop} (hu : A.units + 1 < cLine) (X : K.In s.heap) (I : InstAt s.heap x ox C od) (hne : findIn K (.ref C) "__ne__" = some (some (.builtin "object.__ne__"))) (heq : findIn K (.ref C) "__eq__" = some (some (.ref f))) (hf : isFn K (.ref f) = true) (hob : mroIn K C (.type "object") = some true)
    (run : wpAny (model prog w) A.in1 (call (.ref f) [.ref x, u]) (fun v s' => ∃ c, v = .bool c ∧ Q (.bool (!c)) s') E s) :
    wpAny (model prog w) A (tryCompare (.ref x) "__ne__" u) (fun r s' => ∃ v, r = some v ∧ Q v s') E s := by
  have hin : Looks (model prog w) s.heap (isInstance (.ref x) (.type "object")) true := I.type.andThen (looks_mroIn X hob)
  have slot := PySem.F.slot_tuple_iterator_ne
  have body : wpAny (model prog w) A.in1 (Builtin.«object.__ne__» ⟨[.ref x, u], []⟩) (fun fin s' => ∃ v, fin = .done (.ret v) ∧ v ≠ .notImplemented ∧ Q v s') E s := by
    obtain ⟨hp, g, d, tk, os⟩ := s
    unfold Builtin.«object.__ne__»
    repeat (first
      | with_reducible refine wpAny_cRoomFor hu ?_
      | (refine wpAny_bind (m := callSpecialIfBound? (.ref x) (Str.ofString "__eq__") [u]) (ifBound_K X I heq hf (wpAny_mono run (fun r s' hr => by
          obtain ⟨b, rfl, hq⟩ := hr
          repeat (first | exact ⟨.bool (!b), rfl, (by intro z; cases z), hq⟩ | exact wpAny_pure ⟨.bool (!b), rfl, (by intro z; cases z), hq⟩ | (refine wpAny_bind (m := truthy (.bool _)) (wpAny_truthy_bool ?_)) | wp_step)) fun _ _ e => e)))
      | wp_step)
  have called : wpAny (model prog w) A (call (.builtin "object.__ne__") [.ref x, u]) (fun v s' => v ≠ .notImplemented ∧ Q v s') E s := by
    refine wpAny_call (codeAny_call_builtin slot.plain PySem.F.cmpEntry_ne ?_)
    refine @check_slot (model prog w) _ _ s "object.__ne__" "object" "__ne__" (.ref x) [u] [] _ PySem.F.cmpKind_ne PySem.F.cmpSplit_ne hin (PySem.F.cmpArgs_ne _ _) ?_
    refine wpAny_mono body (fun fin s' hf => ?_) fun _ _ e => e
    obtain ⟨v, rfl, h1, h2⟩ := hf
    exact ⟨h1, h2⟩
  unfold tryCompare
  simp only [callSpecialIfBound?, bindSpecialIfBound?]
  refine wpAny_bind (wpAny_holding (wpAny_bind (wpAny_bind (wpAny_bind (I.type.here ((looks_findIn X hne).here ?_))))))
  simp only [slot.bind]
  refine wpAny_bind (wpAny_askSetting (wpAny_ite ?_))
  have fin : wpAny (model prog w) A (call (.builtin "object.__ne__") ([.ref x] ++ [u]) >>= fun v => pure (some v)) (fun r s' => wpAny (model prog w) A (match r with | some .notImplemented | none => pure none | some v => pure (some v)) (fun r s' => ∃ v, r = some v ∧ Q v s') E s') E s :=
    wpAny_bind (wpAny_mono called (fun v s' h' => wpAny_pure (by
      obtain ⟨h1, h2⟩ := h'
      cases v <;> first | exact absurd rfl h1 | exact wpAny_pure ⟨_, rfl, h2⟩)) fun _ _ h' => h')
  split
  · exact wpAny_bind (wpAny_pure (wpAny_pure (by exact fin)))
  · exact wpAny_tryCatch (wpAny_bind (wpAny_pure (wpAny_pure (by exact fin))))
/-- bool(x) by the class's own __bool__ -/
theorem call_boolOwn {Q : Value → Shared → Prop} (X : K.In s.heap) (I : InstAt s.heap x ox C od) (hs : findIn K (.ref C) "__bool__" = some (some (.ref f))) (hf : isFn K (.ref f) = true)
    (run : wpAny (model prog w) A.in1.in1 (call (.ref f) [.ref x]) (fun v s' => ∃ c, v = .bool c ∧ Q (.bool c) s') E s) : wpAny (model prog w) A (call (.type "bool") [.ref x]) Q E s := by
  refine callType_newIn (S := fun A R s => wpAny (model prog w) A.in1 (truthy (.ref x)) (fun b s' => R (.ok (.ret (.bool b))) s') (fun e s' => R (.error e) s') s) PySem.F.called_bool PySem.F.newNe_bool (PySem.F.typeCall_bool_1 _) (PySem.F.newCall_bool_1 _) (fun obj => PySem.F.args_object_init_2 obj _) PySem.F.entry_bool_new (fun A R s hs => ?_) ?_
  · obtain ⟨hp, g, d, tk, os⟩ := s
    have f1 := PySem.F.conv_sub_bool
    repeat (any_goals (first | assumption | (refine wpAny_bind (m := truthy (.ref x)) (wpAny_mono hs (fun b s' hb => ?_) fun _ _ e => e)) | wp_step))
    all_goals first | exact hb | skip
  · unfold truthy
    refine wpAny_bind (m := callSpecial? (.ref x) (Str.ofString "__bool__")) (special_fn X I hs (beq_iff_eq.mp hf) (wpAny_mono run (fun r s' hr => ?_) fun _ _ y => y))
    obtain ⟨c, rfl, hq⟩ := hr
    exact wpAny_pure ⟨rfl, hq⟩
end
end L3
end
section
namespace L3
open PySem PySem.Spec PySem.Calls PyProof.Rows PySem.W
theorem cmp_first {prog : Program} {w : World} {A : Around} {E : Value → Shared → Prop} {s : Shared} {K : Frag} {x C : Addr} {ox : Obj} {od : Option Obj} {op : CmpOp} {b tb : Value} {Q : Value → Shared → Prop} {f : Str} (hu : A.units < cLine) (X : K.In s.heap) (I : InstAt s.heap x ox C od) (hb : Looks (model prog w) s.heap (typeOf b) tb) (hn : notFirst K C tb = true) (hf : (cmpInfo op).2.1 = f)
    (one : wpAny (model prog w) A (tryCompare (.ref x) f b) (fun r s' => ∃ v, r = some v ∧ Q v s') E s) : wpAny (model prog w) A (richCompare op (.ref x) b) Q E s := by
  subst hf
  unfold richCompare
  simp only [oneThing_ref]
  refine wpAny_holding (wpAny_bind (wpAny_cRoomFor hu ?_))
  refine wpAny_bind (I.type.here (wpAny_bind (hb.here ?_)))
  have fin : ∀ (r : Option Value) (s' : Shared), (∃ v, r = some v ∧ Q v s') → ∃ v, r = some v ∧ Q v s' := fun _ _ z => z
  by_cases q : (Value.ref C != tb) = true
  · rw [if_pos q]
    have e : subIn K tb (.ref C) = some false := by
      rcases Bool.or_eq_true_iff.mp hn with e | e
      · rw [beq_iff_eq.mp e] at q; simp at q
      · exact beq_iff_eq.mp e
    refine wpAny_bind ((looks_subIn X e).here ?_)
    simp only [Bool.false_eq_true, if_false]
    refine wpAny_bind (wpAny_mono one (fun r s' z => ?_) fun _ _ e => e)
    obtain ⟨v, rfl, hq⟩ := z
    exact wpAny_pure hq
  · rw [if_neg q]
    refine wpAny_bind (wpAny_pure ?_)
    simp only [Bool.false_eq_true, if_false]
    refine wpAny_bind (wpAny_mono one (fun r s' z => ?_) fun _ _ e => e)
    obtain ⟨v, rfl, hq⟩ := z
    exact wpAny_pure hq
end L3
namespace L3
open PySem PySem.Spec PyProof.Rows L2 LamX
theorem od_lu {X : Cx} {pins : List (Addr × Obj)} {σ : L2.St} {H : Hp} {s : Shared} {v : V} {u : Value} {t : Str} (I : Inv X pins σ H s) (r : RelV v u) (od : Od H v t) : ∃ T, LU s.heap u T ∧ T ∈ odTys := by
  cases od with
  | non =>
    cases (show u = Value.none from r)
    exact ⟨_, .non, by simp⟩
  | bl b =>
    cases (show u = Value.bool b from r)
    exact ⟨_, .bl b, by simp⟩
  | str z _ _ =>
    obtain ⟨t, rfl⟩ := (show ∃ t, u = Value.str z t from r)
    exact ⟨_, .str z t, by simp⟩
  | tup h _ _ =>
    cases (show u = Value.ref _ from r)
    obtain ⟨_, its, _, o, h1, h2, _⟩ := (show ObjOk X.prog X.w H s.heap _ (.tup _) from I.hok _ _ h)
    exact ⟨_, .tup h1 h2, by simp⟩
  | lst h _ _ =>
    cases (show u = Value.ref _ from r)
    obtain ⟨_, its, n, _, h1⟩ := (show ObjOk X.prog X.w H s.heap _ (.lst _) from I.hok _ _ h)
    exact ⟨_, .lst h1 rfl, by simp⟩
  | dic h =>
    cases (show u = Value.ref _ from r)
    obtain ⟨_, _, vs, _, o, es, ep, e1, ⟨e2, _⟩, _⟩ := (show ObjOk X.prog X.w H s.heap _ (.dK []) from I.hok _ _ h)
    exact ⟨_, .dic e1 e2, by simp⟩
/-- what the written part says of the class, for its comparisons -/
structure CmpF (K : PySem.W.Frag) (C : Addr) : Prop where
  notF : (numTys.all fun T => PySem.W.notFirst K C (.type T)) = true
  notC : PySem.W.notFirst K C (.ref C) = true
  subs : (numTys.all fun T => decide (PySem.W.subIn K (.ref C) (.type T) = some false)) = true
  ob : PySem.W.mroIn K C (.type "object") = some true
  ne : PySem.W.findIn K (.ref C) "__ne__" = some (some (.builtin "object.__ne__"))
theorem CmpF.sub {K : PySem.W.Frag} {C : Addr} (F : CmpF K C) {T : String} (h : T ∈ numTys) : PySem.W.subIn K (.ref C) (.type T) = some false := of_decide_eq_true (List.all_eq_true.mp F.subs T h)
/-- a method of two parameters by its name -/
structure Me (P : Program) (w : World) (K : PySem.W.Frag) (mg : Str → Option Value) (base : Heap) (C : Addr) (m : Str) (k : Nat) (ps : List Str) (sp : Sp) : Prop where
  ex : ∃ (f : Addr) (fd : FuncData), PySem.W.findIn K (.ref C) m = some (some (.ref f)) ∧ PySem.W.isFn K (.ref f) = true ∧ FnOk P w K mg base (L2.CX P w) k f fd ps sp ∧ L2.Binds K fd ps []
section
variable {X : Cx} {C : Addr} {op : CmpOp} {k j : Nat} {sp : Sp} {E : XK} {m : Str}
theorem oth_looks {pins : List (Addr × Obj)} {σ : L2.St} {H : Hp} {s : Shared} {y : V} {u : Value} (F : CmpF X.K C) (I : Inv X pins σ H s) (r : RelV y u) (h : OthV C y H) : ∃ tb, PySem.W.Looks (model X.prog X.w) s.heap (typeOf u) tb ∧ PySem.W.notFirst X.K C tb = true := by
  have go : ∀ T, TyX X.K H y (.type T) → T ∈ numTys → ∃ tb, PySem.W.Looks (model X.prog X.w) s.heap (typeOf u) tb ∧ PySem.W.notFirst X.K C tb = true := fun T ty hm => by
    obtain ⟨P', kx, hP, _⟩ := kit_of I r ty
    exact ⟨_, kx.ty _ _ I.kIn hP, List.all_eq_true.mp F.notF T hm⟩
  rcases h with ⟨b, dx, fs, rfl, e⟩ | ⟨i, rfl⟩ | ⟨t, h⟩
  · obtain rfl : u = Value.ref b := r
    obtain ⟨od, J⟩ := ins_inst I.hok e
    exact ⟨_, J.type, F.notC⟩
  · exact go _ (.base (.int i)) (by simp)
  · obtain ⟨T, h1, h2⟩ := h.tyAll (K := X.K)
    exact go T h1 (List.mem_cons_of_mem _ h2)
/-- own first -/
theorem cmpOwn (hop : ∀ a b, compareOp op a b = richCompare op a b) (F : CmpF X.K C) (hm : (cmpInfo op).2.1 = m) (B : Me X.prog X.w X.K X.mg X.base C m k ["self", "other"] sp) (hr : Room j X.A) (hx : Passes (L2.CX X.prog X.w) X E) (hk : k ≤ j := by decide) :
    OpR X (compareOp op) (rOwn C sp E) := by
  obtain ⟨f, fd, h1, h2, G, b⟩ := B.ex
  intro pins s σ H x y v u Q I rx ry h
  obtain ⟨a, dx, fs, rfl, ea, ho, q⟩ := h
  obtain rfl : v = Value.ref a := rx
  obtain ⟨od, J⟩ := ins_inst I.hok ea
  obtain ⟨tb, L, nf⟩ := oth_looks F I ry ho
  obtain ⟨mm, Fr⟩ := I.fr
  rw [hop]
  subst hm
  exact PySem.W.cmp_K hr.units0 Fr I.mod.kin J L nf h1 h2 (wpAny_mono (run_fn G (hr.mono hk) b .nil hx I (vs := [.ref a, y]) (.cons (show RelV (.ref a) (.ref a) from rfl) (.cons ry .nil)) (by rw [List.append_nil]; exact q)) (fun w' s' ⟨v', H', I', r', z⟩ => rel_back r' ⟨v', H', I', r', z⟩) fun _ _ z => z)
theorem ask_own {pins : List (Addr × Obj)} {s : Shared} {σ : L2.St} {H : Hp} {a dx : Addr} {fs : List (Str × V)} {x : V} {v : Value} {Q : VK} (B : Me X.prog X.w X.K X.mg X.base C m k ["self", "other"] sp) (hr : Room j X.A) (hx : Passes (L2.CX X.prog X.w) X E) (hk : k ≤ j)
    (I : Inv X pins σ H s) (rx : RelV x v) (ea : H a = some (.ins C dx fs)) (q : sp [.ref a, x] H Q E) : wpAny (model X.prog X.w) X.A (tryCompare (.ref a) m v) (fun r s' => ∃ z, r = some z ∧ EP X pins σ Q z s') X.xe s := by
  obtain ⟨f, fd, h1, h2, G, b⟩ := B.ex
  obtain ⟨od, J⟩ := ins_inst I.hok ea
  exact try_own I.kIn J h1 h2 (wpAny_mono (run_fn G (hr.mono hk) b .nil hx I (vs := [.ref a, x]) (.cons (show RelV (.ref a) (.ref a) from rfl) (.cons rx .nil)) (by rw [List.append_nil]; exact q)) (fun w' s' ⟨v', H', I', r', z⟩ => rel_back r' ⟨v', H', I', r', z⟩) fun _ _ z => z)
/-- an int, then own -/
theorem cmpInt (hop : ∀ a b, compareOp op a b = richCompare op a b) (d : DecN op) (F : CmpF X.K C) (hm : (cmpInfo op).2.2 = m) (B : Me X.prog X.w X.K X.mg X.base C m k ["self", "other"] sp) (hr : Room j X.A) (hx : Passes (L2.CX X.prog X.w) X E) (hk : k ≤ j := by decide) :
    OpR X (compareOp op) (rInt C sp E) := by
  intro pins s σ H x y v u Q I rx ry h
  obtain ⟨a, dx, fs, rfl, ea, ⟨i, rfl⟩, q⟩ := h
  obtain rfl : u = Value.ref a := ry
  obtain ⟨t, rfl⟩ := (show ∃ t, v = Value.int i t from rx)
  obtain ⟨od, J⟩ := ins_inst I.hok ea
  rw [hop]
  exact cmp_refl hr.units0 I.kIn J (typeIs_int s i t) (F.sub (by simp)) hm (fun Q h => d _ _ _ _ s a _ i t J.at_ rfl Q h) (ask_own B hr hx hk I (show RelV (.int i) (.int i t) from ⟨t, rfl⟩) ea q)
/-- another value, then own -/
theorem cmpOdd (hop : ∀ a b, compareOp op a b = richCompare op a b) (d : DecC op) (F : CmpF X.K C) (hm : (cmpInfo op).2.2 = m) (B : Me X.prog X.w X.K X.mg X.base C m k ["self", "other"] sp) (hr : Room j X.A) (hx : Passes (L2.CX X.prog X.w) X E) (hk : k ≤ j := by decide) :
    OpR X (compareOp op) (rOdd C sp E) := by
  intro pins s σ H x y v u Q I rx ry h
  obtain ⟨a, dx, fs, rfl, ea, ⟨t, ho⟩, q⟩ := h
  obtain rfl : u = Value.ref a := ry
  obtain ⟨od, J⟩ := ins_inst I.hok ea
  obtain ⟨T, lu, hT⟩ := od_lu I rx ho
  rw [hop]
  refine cmp_refl hr.units0 I.kIn J lu.is (F.sub (List.mem_cons_of_mem _ hT)) hm (fun Q h => d _ _ _ _ s a C _ _ T lu J.at_ rfl rfl (fun M T' h' => PySem.W.looks_subIn I.kIn (F.sub ?_)) Q h) (ask_own B hr hx hk I rx ea q)
  simp only [List.mem_cons, List.not_mem_nil, or_false] at h' ⊢
  rcases h' with rfl | rfl | rfl <;> simp
/-- != by the own ==: own first -/
theorem ask_ne {pins : List (Addr × Obj)} {s : Shared} {σ : L2.St} {H : Hp} {a dx : Addr} {fs : List (Str × V)} {x : V} {v : Value} {Q : VK} (F : CmpF X.K C) (B : Me X.prog X.w X.K X.mg X.base C "__eq__" k ["self", "other"] sp) (hr : Room (j + 1) X.A) (hx : Passes (L2.CX X.prog X.w) X E) (hk : k ≤ j)
    (I : Inv X pins σ H s) (rx : RelV x v) (ea : H a = some (.ins C dx fs)) (q : sp [.ref a, x] H (fun z H' => ∃ c, z = .bl c ∧ Q (.bl (!c)) H') E) : wpAny (model X.prog X.w) X.A (tryCompare (.ref a) "__ne__" v) (fun r s' => ∃ z, r = some z ∧ EP X pins σ Q z s') X.xe s := by
  obtain ⟨f, fd, h1, h2, G, b⟩ := B.ex
  obtain ⟨od, J⟩ := ins_inst I.hok ea
  have hl : ([Value.ref a, v] : List Value).length = (["self", "other"] : List Str).length := rfl
  refine try_ne (by have := hr.units; omega) I.kIn J F.ne h1 h2 F.ob ?_
  refine wpAny_call (codeAny_mono (G.run X.A.in1 X.stack s H ⟨[.ref a, v], []⟩ [.ref a, v] [.ref a, x] (fun z H' => ∃ c, z = .bl c ∧ Q (.bl (!c)) H') E (hr.in1.mono hk) I.env0.in1 (by have := b s [.ref a, v] I.kIn rfl; rw [List.append_nil] at this; exact this) (.cons (show RelV (.ref a) (.ref a) from rfl) (.cons rx .nil)) q) fun r s' z => ?_)
  match r, z with
  | .error e, z => exact hx pins σ H s e s' I z
  | .ok (.ret u), z =>
    obtain ⟨v', H', I', r', c, rfl, q'⟩ := I.after z
    cases (show u = Value.bool c from r')
    exact ⟨c, rfl, .bl (!c), H', I', rfl, q'⟩
def negQ (Q : VK) : VK := fun z H' => ∃ c, z = .bl c ∧ Q (.bl (!c)) H'
def rNeQ (r : R2) : R2 := fun x y H Q => r x y H (negQ Q)
theorem neOwn (F : CmpF X.K C) (B : Me X.prog X.w X.K X.mg X.base C "__eq__" k ["self", "other"] sp) (hr : Room (j + 1) X.A) (hx : Passes (L2.CX X.prog X.w) X E) (hk : k ≤ j := by decide) : OpR X (compareOp .NotEq) (rNeQ (rOwn C sp E)) := by
  intro pins s σ H x y v u Q I rx ry h
  obtain ⟨a, dx, fs, rfl, ea, ho, q⟩ := h
  obtain rfl : v = Value.ref a := rx
  obtain ⟨od, J⟩ := ins_inst I.hok ea
  obtain ⟨tb, L, nf⟩ := oth_looks F I ry ho
  show wpAny _ _ (richCompare .NotEq _ _) _ _ _
  exact cmp_first hr.units0 I.kIn J L nf rfl (ask_ne F B hr hx hk I ry ea q)
theorem neInt (F : CmpF X.K C) (B : Me X.prog X.w X.K X.mg X.base C "__eq__" k ["self", "other"] sp) (hr : Room (j + 1) X.A) (hx : Passes (L2.CX X.prog X.w) X E) (hk : k ≤ j := by decide) : OpR X (compareOp .NotEq) (rNeQ (rInt C sp E)) := by
  intro pins s σ H x y v u Q I rx ry h
  obtain ⟨a, dx, fs, rfl, ea, ⟨i, rfl⟩, q⟩ := h
  obtain rfl : u = Value.ref a := ry
  obtain ⟨t, rfl⟩ := (show ∃ t, v = Value.int i t from rx)
  obtain ⟨od, J⟩ := ins_inst I.hok ea
  show wpAny _ _ (richCompare .NotEq _ _) _ _ _
  exact cmp_refl hr.units0 I.kIn J (typeIs_int s i t) (F.sub (by simp)) rfl (fun Q h => decN_ne _ _ _ _ s a _ i t J.at_ rfl Q h) (ask_ne F B hr hx hk I (show RelV (.int i) (.int i t) from ⟨t, rfl⟩) ea q)
/-- numbers compared, one of them a fraction at least -/
theorem cmpBin {spR : Sp} {m' : Str} (hop : ∀ a b, compareOp op a b = richCompare op a b) (d : DecN op) (F : CmpF X.K C) (hm : (cmpInfo op).2.1 = m) (hm' : (cmpInfo op).2.2 = m') (B : Me X.prog X.w X.K X.mg X.base C m k ["self", "other"] sp) (B' : Me X.prog X.w X.K X.mg X.base C m' k ["self", "other"] spR) (hr : Room j X.A) (hx : Passes (L2.CX X.prog X.w) X E) (hk : k ≤ j := by decide) :
    OpR X (compareOp op) (rBin C sp spR E) := OpR.or (cmpOwn hop F hm B hr hx hk) (cmpInt hop d F hm' B' hr hx hk)
theorem neBin (F : CmpF X.K C) (B : Me X.prog X.w X.K X.mg X.base C "__eq__" k ["self", "other"] sp) (hr : Room (j + 1) X.A) (hx : Passes (L2.CX X.prog X.w) X E) (hk : k ≤ j := by decide) : OpR X (compareOp .NotEq) (rNeQ (rBin C sp sp E)) := OpR.or (neOwn F B hr hx hk) (neInt F B hr hx hk)
/-- bool(x) -/
def rBoolR (C : Addr) (sp : Sp) (E : XK) : List V → Hp → VK → Prop := fun xs H Q => ∃ a dx fs, xs = [.ref a] ∧ H a = some (.ins C dx fs) ∧ sp [.ref a] H (fun z H' => ∃ c, z = .bl c ∧ Q (.bl c) H') E
theorem callBoolR (B : Me X.prog X.w X.K X.mg X.base C "__bool__" k ["self"] sp) (hr : Room (j + 2) X.A) (hx : Passes (L2.CX X.prog X.w) X E) (hk : k ≤ j := by decide) : CallR X (.type "bool") (rBoolR C sp E) := by
  obtain ⟨f, fd, h1, h2, G, b⟩ := B.ex
  intro pins s σ H xs us Q I r h
  obtain ⟨a, dx, fs, rfl, ea, q⟩ := h
  obtain ⟨u, rfl, rx⟩ := vals1 r
  cases (show u = Value.ref a from rx)
  obtain ⟨od, J⟩ := ins_inst I.hok ea
  refine call_boolOwn I.kIn J h1 h2 ?_
  refine wpAny_call (codeAny_mono (G.run X.A.in1.in1 X.stack s H ⟨[.ref a], []⟩ [.ref a] [.ref a] (fun z H' => ∃ c, z = .bl c ∧ Q (.bl c) H') E (hr.in1.in1.mono hk) I.env0.in1.in1 (by have := b s [.ref a] I.kIn rfl; rw [List.append_nil] at this; exact this) (.cons (show RelV (.ref a) (.ref a) from rfl) .nil) q) fun r s' z => ?_)
  match r, z with
  | .error e, z => exact hx pins σ H s e s' I z
  | .ok (.ret u), z =>
    obtain ⟨v', H', I', r', c, rfl, q'⟩ := I.after z
    cases (show u = Value.bool c from r')
    exact ⟨c, rfl, .bl c, H', I', rfl, q'⟩
end
structure MeK (P : Program) (w : World) (K : PySem.W.Frag) (mg : Str → Option Value) (base : Heap) (C : Addr) (m : Str) (k : Nat) (sp : Sp) : Prop where
  ex : ∃ (f : Addr) (fd : FuncData), Meth K C m f ∧ FnOk P w K mg base (L2.CX P w) k f fd ["self"] sp ∧ L2.Binds K fd ["self"] []
theorem pe_m0 {X : Cx} {C : Addr} {k j : Nat} {sp : Sp} {E : XK} {m : Str} {o : Expr} {ta : TE} {apos pos : Pos} {pl : Sem Bool} (B : MeK X.prog X.w X.K X.mg X.base C m k sp) (c : Cls X.K C) (hr : Room j X.A) (hx : Passes (L2.CX X.prog X.w) X E) (he : PE X o ta) (hk : k ≤ j := by decide)
    (ht : eval (.Call (.Attribute o m apos) [] [] pos) X.env = (do
      let ov ← eval o X.env
      standAt apos.atName
      let (f, first) ← holding [ov] (getMethod ov m pl)
      callWith pos f first (backTo pos (starEach [] X.env)) (backToKw pos (keywordEach [] X.env))) := by rfl) : PE X (.Call (.Attribute o m apos) [] [] pos) (tMeth C m sp [] E ta tNil) := by
  obtain ⟨f, fd, h1, G, b⟩ := B.ex
  exact pe_meth0 he c h1 G (hr.mono hk) b .nil hx ht
section
variable {C CB : Addr} {H : Hp} {Q : VK} {x y : V} {o u o' u' : Int} {E : XK}
/-! ## promises of the comparisons -/
def spCmp (g : Int → Int → Int → Int → Bool) (C CB : Addr) : Sp := fun vs H Q E => ∃ p y o u, vs = [.ref p, y] ∧ Rt C H p o u ∧ Bd o u ∧
  ((∃ o' u', Nm C H y o' u' ∧ Bd o' u' ∧ ∀ H', Ex H H' → Q (.bl (g o u o' u')) H') ∨ (∃ t, Od H y t ∧ Rz CB "value" y H E))
def spEqR (C : Addr) : Sp := fun vs H Q _ => ∃ p y o u, vs = [.ref p, y] ∧ Rt C H p o u ∧ ((∃ o' u', Nm C H y o' u' ∧ Q (.bl (decide (o = o') && decide (u = u'))) H) ∨ (∃ t, Od H y t ∧ Q (.bl false) H))
def gLt (o u o' u' : Int) : Bool := decide (o * u' < o' * u)
def gLe (o u o' u' : Int) : Bool := decide (o * u' ≤ o' * u)
def gGt (o u o' u' : Int) : Bool := decide (o * u' > o' * u)
def gGe (o u o' u' : Int) : Bool := decide (o * u' ≥ o' * u)
def spOne (g : Int → Int → V) (C : Addr) : Sp := fun vs H Q _ => ∃ p o u, vs = [.ref p] ∧ Rt C H p o u ∧ Bd o u ∧ Q (g o u) H
theorem s_cmp {g g' : Int → Int → Int → Int → Bool} (hc : ∀ o u o' u', g' o' u' o u = g o u o' u') (n1 : Nm C H x o u) (n2 : Nm C H y o' u') (one : (∃ q, x = .ref q) ∨ ∃ q, y = .ref q) (b1 : Bd o u) (b2 : Bd o' u')
    (h : ∀ H', Ex H H' → Q (.bl (g o u o' u')) H') : rBin C (spCmp g C CB) (spCmp g' C CB) E x y H Q := by
  rcases n1 with ⟨q, rfl, r1⟩ | ⟨rfl, rfl⟩
  · refine .inl ?_
    obtain ⟨dx, e⟩ := id r1
    refine ⟨q, dx, _, rfl, e, ?_, q, y, o, u, rfl, r1, b1, .inl ⟨o', u', n2, b2, h⟩⟩
    rcases n2 with ⟨q', rfl, dx', e'⟩ | ⟨rfl, rfl⟩
    · exact .inl ⟨q', dx', _, rfl, e'⟩
    · exact .inr (.inl ⟨_, rfl⟩)
  · rcases n2 with ⟨q', rfl, r2⟩ | ⟨rfl, rfl⟩
    · refine .inr ?_
      obtain ⟨dx', e'⟩ := id r2
      exact ⟨q', dx', _, rfl, e', ⟨_, rfl⟩, q', _, o', u', rfl, r2, b2, .inl ⟨o, 1, .inr ⟨rfl, rfl⟩, b1, fun H' he => by rw [hc]; exact h H' he⟩⟩
    · rcases one with ⟨q, e⟩ | ⟨q, e⟩ <;> cases e
theorem s_eqR (n1 : Nm C H x o u) (n2 : Nm C H y o' u') (one : (∃ q, x = .ref q) ∨ ∃ q, y = .ref q) (h : Q (.bl (decide (o = o') && decide (u = u'))) H) : rBin C (spEqR C) (spEqR C) E x y H Q := by
  rcases n1 with ⟨q, rfl, r1⟩ | ⟨rfl, rfl⟩
  · refine .inl ?_
    obtain ⟨dx, e⟩ := id r1
    refine ⟨q, dx, _, rfl, e, ?_, q, y, o, u, rfl, r1, .inl ⟨o', u', n2, h⟩⟩
    rcases n2 with ⟨q', rfl, dx', e'⟩ | ⟨rfl, rfl⟩
    · exact .inl ⟨q', dx', _, rfl, e'⟩
    · exact .inr (.inl ⟨_, rfl⟩)
  · rcases n2 with ⟨q', rfl, r2⟩ | ⟨rfl, rfl⟩
    · refine .inr ?_
      obtain ⟨dx', e'⟩ := id r2
      refine ⟨q', dx', _, rfl, e', ⟨_, rfl⟩, q', _, o', u', rfl, r2, .inl ⟨o, 1, .inr ⟨rfl, rfl⟩, ?_⟩⟩
      have e1 : decide (o' = o) = decide (o = o') := decide_eq_decide.mpr ⟨Eq.symm, Eq.symm⟩
      have e2 : decide (u' = 1) = decide (1 = u') := decide_eq_decide.mpr ⟨Eq.symm, Eq.symm⟩
      rw [e1, e2]
      exact h
    · rcases one with ⟨q, e⟩ | ⟨q, e⟩ <;> cases e
theorem s_ownOddC {g : Int → Int → Int → Int → Bool} {p : Addr} {t : Str} (r1 : Rt C H p o u) (b1 : Bd o u) (od : Od H y t) (h : Rz CB "value" y H E) : rOwn C (spCmp g C CB) E (.ref p) y H Q := by
  obtain ⟨dx, e⟩ := id r1
  exact ⟨p, dx, _, rfl, e, .inr (.inr ⟨t, od⟩), p, y, o, u, rfl, r1, b1, .inr ⟨t, od, h⟩⟩
theorem s_oddOwnC {g : Int → Int → Int → Int → Bool} {p : Addr} {t : Str} (r1 : Rt C H p o u) (b1 : Bd o u) (od : Od H x t) (h : Rz CB "value" x H E) : rOdd C (spCmp g C CB) E x (.ref p) H Q := by
  obtain ⟨dx, e⟩ := id r1
  exact ⟨p, dx, _, rfl, e, ⟨t, od⟩, p, x, o, u, rfl, r1, b1, .inr ⟨t, od, h⟩⟩
theorem s_ownOddE {p : Addr} {t : Str} (r1 : Rt C H p o u) (od : Od H y t) (h : Q (.bl false) H) : rOwn C (spEqR C) E (.ref p) y H Q := by
  obtain ⟨dx, e⟩ := id r1
  exact ⟨p, dx, _, rfl, e, .inr (.inr ⟨t, od⟩), p, y, o, u, rfl, r1, .inr ⟨t, od, h⟩⟩
theorem s_oddOwnE {p : Addr} {t : Str} (r1 : Rt C H p o u) (od : Od H x t) (h : Q (.bl false) H) : rOdd C (spEqR C) E x (.ref p) H Q := by
  obtain ⟨dx, e⟩ := id r1
  exact ⟨p, dx, _, rfl, e, ⟨t, od⟩, p, x, o, u, rfl, r1, .inr ⟨t, od, h⟩⟩
theorem cLt (o u o' u' : Int) : gGt o' u' o u = gLt o u o' u' := by unfold gGt gLt; congr 1
theorem cLe (o u o' u' : Int) : gGe o' u' o u = gLe o u o' u' := by unfold gGe gLe; congr 1
theorem cGt (o u o' u' : Int) : gLt o' u' o u = gGt o u o' u' := by unfold gGt gLt; congr 1
theorem cGe (o u o' u' : Int) : gLe o' u' o u = gGe o u o' u' := by unfold gGe gLe; congr 1
/-- equal fractions in least terms are the same -/
theorem red_eq {a b c d : Int} (hb : b ≠ 0) (hd : d ≠ 0) : (rO a b * rU' c d = rO c d * rU' a b) ↔ (rO a b = rO c d ∧ rU' a b = rU' c d) := by
  have i1 := r_idem (a := a) hb
  have i2 := r_idem (a := c) hd
  have u1 := rU_pos (a := a) hb
  have u2 := rU_pos (a := c) hd
  generalize rO a b = o at *
  generalize rU' a b = u at *
  generalize rO c d = o' at *
  generalize rU' c d = u' at *
  refine ⟨fun h => ?_, fun ⟨h1, h2⟩ => by rw [h1, h2]⟩
  have e1 := rO_mul (a := o) (b := u) (k := u') (by omega) (by omega)
  have e2 := rO_mul (a := o') (b := u') (k := u) (by omega) (by omega)
  have e3 := rU_mul (a := o) (b := u) (k := u') (by omega) (by omega)
  have e4 := rU_mul (a := o') (b := u') (k := u) (by omega) (by omega)
  rw [h, Int.mul_comm u u'] at e1 e3
  constructor
  · rw [← i1.1, ← i2.1, ← e1, ← e2]
  · rw [← i1.2, ← i2.2, ← e3, ← e4]
end
end L3
end
section
namespace L3
open PySem PySem.Spec PyProof.Rows L2 LamX
/-! ## whole quotients and rests -/
section
variable {C CB : Addr} {H H' : Hp} {Q : VK} {x y : V} {o u o' u' : Int} {E : XK}
theorem Rz.ex {g : Str} {v : V} (h : Rz C g v H E) (e : Ex H H') : Rz C g v H' E := fun d H2 hd e2 hx => h d H2 (e.free hd) (e.trans e2) hx
def spAbove (C CB : Addr) : Sp := fun vs H Q E => ∃ x, vs = [x] ∧ ((∃ o u, Nm C H x o u ∧ 0 < o ∧ ∀ q H', Ex H H' → Rt C H' q o u → Q (.ref q) H') ∨ (∃ o u, Nm C H x o u ∧ o ≤ 0 ∧ Rz CB "value" x H E) ∨ (∃ t, Od H x t ∧ Rz CB "value" x H E))
def spQuot (C : Addr) : Sp := fun vs H Q _ => ∃ p q o u o' u', vs = [.ref p, .ref q] ∧ Rt C H p o u ∧ Rt C H q o' u' ∧ Bd o u ∧ Bd o' u' ∧ 0 < o' ∧ Q (.int (o * u' / (u * o'))) H
/-- the rest's upper part -/
def gRem (o u o' u' : Int) : Int := o * u' - o * u' / (u * o') * o' * u
def spRem (C : Addr) : Sp := fun vs H Q _ => ∃ p q o u o' u', vs = [.ref p, .ref q] ∧ Rt C H p o u ∧ Rt C H q o' u' ∧ Bd o u ∧ Bd o' u' ∧ 0 < o' ∧ ∀ r H', H r = none → Ex H H' → Rt C H' r (rO (gRem o u o' u') (u * u')) (rU' (gRem o u o' u') (u * u')) → Q (.ref r) H'
def refusedR (C CB : Addr) (y : V) (H : Hp) (E : XK) : Prop := ((∃ o u, Nm C H y o u ∧ o ≤ 0) ∨ ∃ t, Od H y t) ∧ Rz CB "value" y H E
def spFd (C CB : Addr) : Sp := fun vs H Q E => ∃ p y o u, vs = [.ref p, y] ∧ Rt C H p o u ∧ Bd o u ∧ ((∃ o' u', Nm C H y o' u' ∧ Bd o' u' ∧ 0 < o' ∧ ∀ H', Ex H H' → Q (.int (o * u' / (u * o'))) H') ∨ refusedR C CB y H E)
def spRfd (C CB : Addr) : Sp := fun vs H Q E => ∃ p x o u o' u', vs = [.ref p, x] ∧ Rt C H p o' u' ∧ Bd o' u' ∧ Nm C H x o u ∧ Bd o u ∧ ((0 < o' ∧ ∀ H', Ex H H' → Q (.int (o * u' / (u * o'))) H') ∨ (o' ≤ 0 ∧ Rz CB "value" (.ref p) H E))
def spMd (C CB : Addr) : Sp := fun vs H Q E => ∃ p y o u, vs = [.ref p, y] ∧ Rt C H p o u ∧ Bd o u ∧ ((∃ o' u', Nm C H y o' u' ∧ Bd o' u' ∧ 0 < o' ∧ ∀ r H', H r = none → Ex H H' → Rt C H' r (rO (gRem o u o' u') (u * u')) (rU' (gRem o u o' u') (u * u')) → Q (.ref r) H') ∨ refusedR C CB y H E)
def spRmd (C CB : Addr) : Sp := fun vs H Q E => ∃ p x o u o' u', vs = [.ref p, x] ∧ Rt C H p o' u' ∧ Bd o' u' ∧ Nm C H x o u ∧ Bd o u ∧ ((0 < o' ∧ ∀ r H', H r = none → Ex H H' → Rt C H' r (rO (gRem o u o' u') (u * u')) (rU' (gRem o u o' u') (u * u')) → Q (.ref r) H') ∨ (o' ≤ 0 ∧ Rz CB "value" (.ref p) H E))
theorem s_fd (n1 : Nm C H x o u) (n2 : Nm C H y o' u') (one : (∃ q, x = .ref q) ∨ ∃ q, y = .ref q) (b1 : Bd o u) (b2 : Bd o' u') (h0 : 0 < o') (h : ∀ H', Ex H H' → Q (.int (o * u' / (u * o'))) H') : rBin C (spFd C CB) (spRfd C CB) E x y H Q := by
  rcases n1 with ⟨q, rfl, r1⟩ | ⟨rfl, rfl⟩
  · refine .inl ?_
    obtain ⟨dx, e⟩ := id r1
    refine ⟨q, dx, _, rfl, e, ?_, q, y, o, u, rfl, r1, b1, .inl ⟨o', u', n2, b2, h0, h⟩⟩
    rcases n2 with ⟨q', rfl, dx', e'⟩ | ⟨rfl, rfl⟩
    · exact .inl ⟨q', dx', _, rfl, e'⟩
    · exact .inr (.inl ⟨_, rfl⟩)
  · rcases n2 with ⟨q', rfl, r2⟩ | ⟨rfl, rfl⟩
    · refine .inr ?_
      obtain ⟨dx', e'⟩ := id r2
      exact ⟨q', dx', _, rfl, e', ⟨_, rfl⟩, q', _, o, 1, o', u', rfl, r2, b2, .inr ⟨rfl, rfl⟩, b1, .inl ⟨h0, h⟩⟩
    · rcases one with ⟨q, e⟩ | ⟨q, e⟩ <;> cases e
theorem s_md (n1 : Nm C H x o u) (n2 : Nm C H y o' u') (one : (∃ q, x = .ref q) ∨ ∃ q, y = .ref q) (b1 : Bd o u) (b2 : Bd o' u') (h0 : 0 < o') (h : ∀ r H', H r = none → Ex H H' → Rt C H' r (rO (gRem o u o' u') (u * u')) (rU' (gRem o u o' u') (u * u')) → Q (.ref r) H') : rBin C (spMd C CB) (spRmd C CB) E x y H Q := by
  rcases n1 with ⟨q, rfl, r1⟩ | ⟨rfl, rfl⟩
  · refine .inl ?_
    obtain ⟨dx, e⟩ := id r1
    refine ⟨q, dx, _, rfl, e, ?_, q, y, o, u, rfl, r1, b1, .inl ⟨o', u', n2, b2, h0, h⟩⟩
    rcases n2 with ⟨q', rfl, dx', e'⟩ | ⟨rfl, rfl⟩
    · exact .inl ⟨q', dx', _, rfl, e'⟩
    · exact .inr (.inl ⟨_, rfl⟩)
  · rcases n2 with ⟨q', rfl, r2⟩ | ⟨rfl, rfl⟩
    · refine .inr ?_
      obtain ⟨dx', e'⟩ := id r2
      exact ⟨q', dx', _, rfl, e', ⟨_, rfl⟩, q', _, o, 1, o', u', rfl, r2, b2, .inr ⟨rfl, rfl⟩, b1, .inl ⟨h0, h⟩⟩
    · rcases one with ⟨q, e⟩ | ⟨q, e⟩ <;> cases e
/-- a value that the right side refuses -/
def OddN (C : Addr) (H : Hp) (y : V) : Prop := (∃ i : Int, y = .int i ∧ i ≤ 0) ∨ ∃ t, Od H y t
theorem s_fdOdd {p : Addr} (r1 : Rt C H p o u) (b1 : Bd o u) (od : OddN C H y) (h : Rz CB "value" y H E) : rOwn C (spFd C CB) E (.ref p) y H Q := by
  obtain ⟨dx, e⟩ := id r1
  refine ⟨p, dx, _, rfl, e, ?_, p, y, o, u, rfl, r1, b1, .inr ⟨?_, h⟩⟩
  · rcases od with ⟨i, rfl, _⟩ | h
    · exact .inr (.inl ⟨i, rfl⟩)
    · exact .inr (.inr h)
  · rcases od with ⟨i, rfl, hi⟩ | h
    · exact .inl ⟨i, 1, .inr ⟨rfl, rfl⟩, hi⟩
    · exact .inr h
theorem s_mdOdd {p : Addr} (r1 : Rt C H p o u) (b1 : Bd o u) (od : OddN C H y) (h : Rz CB "value" y H E) : rOwn C (spMd C CB) E (.ref p) y H Q := by
  obtain ⟨dx, e⟩ := id r1
  refine ⟨p, dx, _, rfl, e, ?_, p, y, o, u, rfl, r1, b1, .inr ⟨?_, h⟩⟩
  · rcases od with ⟨i, rfl, _⟩ | h
    · exact .inr (.inl ⟨i, rfl⟩)
    · exact .inr (.inr h)
  · rcases od with ⟨i, rfl, hi⟩ | h
    · exact .inl ⟨i, 1, .inr ⟨rfl, rfl⟩, hi⟩
    · exact .inr h
/-- the rest lies from 0 up to below the divisor -/
theorem rest_ok {o u o' u' : Int} (hu : 0 < u) (h0 : 0 < o') : 0 ≤ gRem o u o' u' ∧ gRem o u o' u' < u * o' := by
  have hp : 0 < u * o' := Int.mul_pos hu h0
  have e : gRem o u o' u' = o * u' % (u * o') := by
    unfold gRem
    have h1 := Int.emod_def (o * u') (u * o')
    rw [h1, show o * u' / (u * o') * o' * u = u * o' * (o * u' / (u * o')) by ac_rfl]
  rw [e]
  exact ⟨Int.emod_nonneg _ (by omega), Int.emod_lt_of_pos _ hp⟩
end
end L3
end
section
namespace L3
open PySem PySem.Spec PyProof.Rows L2 LamX
/-! ## a lambda that is kept, and called by the def that made it -/
def LamO (f : Addr) (env : Env) (params : Arguments) (body : Expr) (scope : Scope) (c' : Addr) : HO := .ext fun h => ∃ pm ctv, h.get? f = some (PySem.W.kla_obj "<lambda>" (env.qual ++ "<lambda>") params body scope (cloFrom env.cells scope.names []) pm c' ctv)
theorem lamO_ok {P : Program} {w : World} {H : Hp} {h : Heap} {f c' : Addr} {env : Env} {params : Arguments} {body : Expr} {scope : Scope} {pm ctv : Value} (e : h.get? f = some (PySem.W.kla_obj "<lambda>" (env.qual ++ "<lambda>") params body scope (cloFrom env.cells scope.names []) pm c' ctv)) : ObjOk P w H h f (LamO f env params body scope c') :=
  ⟨⟨pm, ctv, e⟩, ⟨_, e⟩, fun _ _ ⟨pm, ctv, q⟩ k => ⟨pm, ctv, k _ q⟩⟩
def tLamO (T : List (Addr × Str)) (env : Env) (params : Arguments) (body : Expr) (scope : Scope) : TE := fun _ H Q => Tabs T H ∧ ∀ f c' H1, H f = none → ExtN H H1 → Tabs T H1 → H1 f = some (LamO f env params body scope c') → H1 c' = some (CodeO c' (env.qual ++ "<lambda>")) → ap Q (.ref f) H1
theorem pe_lamO {X : Cx} {T : List (Addr × Str)} {c P : Addr} {params : Arguments} {body : Expr} {scope : Scope} {pos : Pos} (TB : TabB X.base X.mg c P) (hcode : X.env.code = .ref c) (hm : (P, X.env.qual ++ "<lambda>") ∈ T)
    (hu : ∀ p ∈ T, p.1 = P → p.2 = X.env.qual ++ "<lambda>") (hdef : defaultsOf params X.env = ([], [])) (L : LamS X.env.scope scope) : PE X (.Lambda params body scope pos) (tLamO T X.env params body scope) := by
  constructor
  intro pins s σ H Q I h
  obtain ⟨hT, k⟩ := h
  obtain ⟨ps, hP, ht, ha⟩ := hT _ hm
  have hfr := L.has I.ok
  refine PySem.W.kla_eval hdef ?_
  have bP : s.heap.BuiltinsAt X.mg P := TB.bm.keeps I.bk
  have hP' : s.heap.get? P = some { cls := .none, data := .fields ps } := I.hok P _ hP
  cases hc : codeAmong pos ps.toList with
  | none =>
    refine PySem.W.kla_makeFunction (mg := X.mg) (c := c) (P := P) (ps := ps) (closure_ok hfr) I.ok.glob (I.mod.glob.keeps I.bk) hcode (TB.code.keeps I.bk) hP' ht hc TB.gP bP fun c' ctv h' tk hx hge hlt hrec htb => ?_
    obtain ⟨c2, oc, vs, t, e2, hoc, hd, hv⟩ := hrec
    cases e2
    have hsz : s.heap.objs.size ≤ h'.objs.size := Nat.le_trans hge (Nat.le_of_lt hlt)
    have nC : H c' = none := I.hok.fresh hge
    have I1 : Inv X pins σ _ { s with heap := h', toks := tk } := inv_table (t' := tk) (more := #[rawInt pos.line, rawInt pos.col, .ref c']) I hP hx htb hge ⟨oc, vs, t, hoc, hd, hv⟩
    generalize hH1 : upd (upd H P (.tbl (ps ++ #[rawInt pos.line, rawInt pos.col, .ref c']))) c' (CodeO c' (X.env.qual ++ "<lambda>")) = H1 at I1
    have nPc : P ≠ c' := ne_of_none hP nC
    have eN : ExtN H H1 := fun b o e n => by
      rw [← hH1, upd_ne (ne_of_none e nC), upd_ne (fun z => n ps (Option.some.inj (e.symm.trans (by rw [z]; exact hP))))]
      exact e
    have T1 : Tabs T H1 := fun p hp => by
      by_cases hb : p.1 = P
      · rw [hu p hp hb, hb]
        refine ⟨ps ++ #[rawInt pos.line, rawInt pos.col, .ref c'], by rw [← hH1, upd_ne nPc, upd_same], by simp only [Array.toList_append]; exact PySem.TriplesOk_snoc _ _ _ _ ht, fun p' v hv => ?_⟩
        simp only [Array.toList_append] at hv
        rcases among_app _ ht hv with z | z
        · obtain ⟨c0, e1, e2⟩ := ha p' v z
          exact ⟨c0, e1, eN _ _ e2 codeO_ne⟩
        · exact ⟨c', z, by rw [← hH1]; exact upd_same⟩
      · obtain ⟨qs, a1, a2, a3⟩ := hT p hp
        refine ⟨qs, by rw [← hH1, upd_ne (ne_of_none a1 nC), upd_ne hb]; exact a1, a2, fun p' v hv => ?_⟩
        obtain ⟨c0, e1, e2⟩ := a3 p' v hv
        exact ⟨c0, e1, eN _ _ e2 codeO_ne⟩
    have nf : H1 h'.objs.size = none := I1.hok.fresh (Nat.le_refl _)
    have I2 := I1.laid (t' := tk) (h' := h'.push (PySem.W.kla_obj "<lambda>" (X.env.qual ++ "<lambda>") params body scope (cloFrom X.env.cells scope.names []) ((X.mg "__name__").getD .none) c' ctv)) (a := h'.objs.size) (o := LamO h'.objs.size X.env params body scope c')
      (fun b o e => Heap.get?_push_of_some _ e) (Nat.le_refl _) (lamO_ok (Heap.get?_push_size _ rfl))
    exact ⟨.ref h'.objs.size, _, I2, rfl, k _ c' _ (I.hok.fresh hsz) (eN.trans (.of (ex_new nf))) (Tabs.up T1 nf) upd_same (by rw [upd_ne (ne_of_none (by rw [← hH1]; exact upd_same) nf), ← hH1]; exact upd_same)⟩
  | some cv =>
    obtain ⟨c', e, hco⟩ := ha pos cv hc
    subst e
    refine PySem.W.kla_makeFunctionHit (mg := X.mg) (c := c) (P := P) (ps := ps) (closure_ok hfr) I.ok.glob (I.mod.glob.keeps I.bk) hcode (TB.code.keeps I.bk) hP' ht hc bP fun ctv h' tk hx hsz => ?_
    have I1 : Inv X pins σ H { s with heap := h', toks := tk } := I.kept hx
    have nf : H h'.objs.size = none := I.hok.fresh hsz
    have I2 := I1.laid (t' := tk) (h' := h'.push (PySem.W.kla_obj "<lambda>" (X.env.qual ++ "<lambda>") params body scope (cloFrom X.env.cells scope.names []) ((X.mg "__name__").getD .none) c' ctv)) (a := h'.objs.size) (o := LamO h'.objs.size X.env params body scope c')
      (fun b o e => Heap.get?_push_of_some _ e) (Nat.le_refl _) (lamO_ok (Heap.get?_push_size _ rfl))
    exact ⟨.ref h'.objs.size, _, I2, rfl, k _ c' _ nf (.of (ex_new nf)) (Tabs.up hT nf) upd_same (by rw [upd_ne (ne_of_none hco nf)]; exact hco)⟩
theorem s_lamO {T : List (Addr × Str)} {env : Env} {params : Arguments} {body : Expr} {scope : Scope} {σ : L2.St} {H : Hp} {Q : VK}
    (h : Tabs T H ∧ ∀ f c' H1, H f = none → ExtN H H1 → Tabs T H1 → H1 f = some (LamO f env params body scope c') → H1 c' = some (CodeO c' (env.qual ++ "<lambda>")) → Q (.ref f) H1) : tLamO T env params body scope σ H Q := h
/-- what is known of one such lambda: its text and its reading -/
structure LamD where
  params : Arguments
  body : Expr
  scope : Scope
  t : XK → TE
structure LamOk (X : Cx) (k : Nat) (d : LamD) : Prop where
  L : LamS X.env.scope d.scope
  bind : ∀ (q : Str) (cl : List (Str × Addr)) (pm cv ctv : Value), bindArgs (PySem.W.kla_fn "<lambda>" q d.params d.body d.scope cl pm cv ctv) ⟨[], []⟩ = pure []
  body : ∀ (A : Around) (outer : List Env) (s : Shared) (H : Hp) (E : XK) (f c' : Addr), Room k (A.deeper (lamEnv X d.scope s.heap.objs.size f c')) → PE (lamCx X A outer s H E d.scope f c') d.body (d.t E)
def tAct (i : Nat) (env : Env) (ds : List LamD) (W : WX) : TE := fun σ H Q => ∃ d, d ∈ ds ∧ ∃ f c', σ[i]? = some (some (.ref f)) ∧ H f = some (LamO f env d.params d.body d.scope c') ∧ H c' = some (CodeO c' (env.qual ++ "<lambda>")) ∧ d.t (fun cls dd H' => W cls dd σ H') σ H Q
theorem pe_actX {X : Cx} {W : WX} {k i : Nat} {a : Str} {ds : List LamD} {p1 p2 : Pos} (tk : Takes X W) (hr : Room (k + 1) X.A) (hN : X.N[i]? = some a) (hv : Vis X.env.scope a) (hds : ∀ d ∈ ds, LamOk X k d) (hd : (a == ("__debug__" : Str)) = false := by decide) (hcd : (a == ("__classdict__" : Str)) = false := by decide) :
    PE X (.Call (.Name a p1) [] [] p2) (tAct i X.env ds W) := by
  refine ⟨fun pins s σ H Q I h => ?_⟩
  obtain ⟨d, hmem, f, c', hs, hfo, hc, ht⟩ := h
  have ok := hds d hmem
  refine wpAny_Call_Name_kw (thn ((pe_var (pos := p1) (i := i) hN hv hd hcd).run pins s σ H (fun v H1 => v = .ref f ∧ H1 = H) I ⟨.ref f, hs, rfl, rfl⟩) fun u s1 hh => ?_)
  obtain ⟨v, H1, I1, r1, ev, eH⟩ := hh
  subst ev
  subst eH
  obtain rfl : u = Value.ref f := r1
  obtain ⟨⟨pm, ctv, of1⟩, _, _⟩ := (show ObjOk X.prog X.w H1 s1.heap f (LamO f X.env d.params d.body d.scope c') from I1.hok f _ hfo)
  obtain ⟨⟨oc, vs, t, hoc, hdc, hvc⟩, _, _⟩ := (show ObjOk X.prog X.w H1 s1.heap c' (CodeO c' _) from I1.hok c' _ hc)
  refine PySem.W.callWith_F0 ⟨_, _, _, _, of1⟩ ?_
  have rc : codeAny (model X.prog X.w) X.A (.call (.ref f) ⟨[], []⟩) (CR (L2.CX X.prog X.w) X.stack X.prog X.w H1 s1 Q (fun cls dd H' => W cls dd σ H')) s1 := by
    refine PySem.W.kla_callFunE hr.depth of1 rfl ok.L.co ok.L.gen rfl ⟨c', oc, vs, t, rfl, hoc, hdc, hvc⟩ ?_
    rw [ok.bind]
    refine wpAny_pure (wpAny_newFunctionEnv (fun y hy => (ok.L.own y hy).2) (fun y hy => absurd hy (by simp)) (fun h₁ hns hsb => ⟨I1.nolimit.fresh _ hsb, ?_⟩) ok.L.kind)
    show codeAny _ _ (.expr d.body (lamEnv X d.scope s1.heap.objs.size f c')) _ _
    have kp : ∀ b o, s1.heap.get? b = some o → h₁.get? b = some o := fun b o e => hsb.extBut b o (Nat.ne_of_lt (Heap.lt_size e)) (Heap.get?_push_of_some _ e)
    have J : Inv (lamCx X X.A X.stack s1 H1 (fun cls dd H' => W cls dd σ H') d.scope f c') [] σ H1 { s1 with heap := h₁, toks := s1.toks + ([] : List (Str × Value)).length } :=
      lam_start2 I1 ok.L I1.env0 hr.hd (Un.kept fun _ _ e => e) hns kp
    refine PySem.W.kla_codeExpr (wpAny_mono ((ok.body X.A X.stack s1 H1 (fun cls dd H' => W cls dd σ H') f c' (hr.deeper _)).run [] _ _ H1 Q J ht) (fun v s' hq => ?_) fun e s' hq => hq)
    obtain ⟨w', H', J', rv, q⟩ := hq
    exact ⟨w', H', J'.os, J'.bare, J'.base, J'.hok, rv, q⟩
  refine wpAny_call (codeAny_mono rc fun r s' hq => ?_)
  match r, hq with
  | .error e, hq => exact passAt tk σ pins H1 s1 e s' I1 hq
  | .ok (.ret u), hq => exact I1.after hq
end L3
end
section
namespace L3
open PySem PySem.Spec PySem.Calls PyProof.Rows PySem.W
open PySem.MeetsSeq2
open PySem.AutoSeq1 (wpAny_loadPart')
section
variable {prog : Program} {w : World} {A : Around} {E : Value → Shared → Prop} {s : Shared} {l a : Addr} {u1 u2 x : Value} {items : Array Value} {n : Nat} {dd : Option Addr} {sl : Array (Option Value)}
/-- x in (u1, u2) -/
theorem in2 {Q : Value → Shared → Prop} (hl : s.heap.get? l = some { cls := .type "tuple", dict := dd, data := .seq items n, slots := sl }) (hit : items.toList = [u1, u2])
    (h : wpAny (model prog w) A.in1 (eqBool u1 x) (fun b s' => (b = true ∧ Q (.bool true) s') ∨ (b = false ∧ wpAny (model prog w) A.in1 (eqBool u2 x) (fun b s' => Q (.bool b) s') E s')) E s) :
    wpAny (model prog w) A (compareOp .In x (.ref l)) Q E s := by
  have hT : s.TypeIs (.ref l) "tuple" := ⟨_, hl, rfl⟩
  have body : wpAny (model prog w) A.in1 (Builtin.«tuple.__contains__» ⟨[.ref l, x], []⟩) (fun fin s' => ∃ b, fin = .done (.ret (.bool b)) ∧ Q (.bool b) s') E s := by
    obtain ⟨hp, g, d, tk, os⟩ := s
    wp_walk using wpAny_loadPart' hl, wpAny_forIn_array _ (fun rest b s' => b.1 = none ∧ ((rest = [u1, u2] ∧ s' = ⟨hp, g, d, tk, os⟩) ∨ (rest = [u2] ∧ wpAny (model prog w) A.in1 (eqBool u2 x) (fun b s' => Q (.bool b) s') E s') ∨ (rest = [] ∧ Q (.bool false) s'))) _
    case turn =>
      rintro y rest b s' ⟨hb, ⟨hr, rfl⟩ | ⟨hr, h2⟩ | ⟨hr, _⟩⟩
      · cases hr
        refine wpAny_bind (wpAny_mono h (fun c s1 hc => ?_) fun _ _ e => e)
        rcases hc with ⟨rfl, hq⟩ | ⟨rfl, hq⟩
        · obtain ⟨hp1, g1, d1, tk1, os1⟩ := s1
          wp_walk
          exact ⟨_, rfl, hq⟩
        · obtain ⟨hp1, g1, d1, tk1, os1⟩ := s1
          wp_walk
          exact ⟨rfl, .inr (.inl ⟨rfl, hq⟩)⟩
      · cases hr
        refine wpAny_bind (wpAny_mono h2 (fun c s1 hc => ?_) fun _ _ e => e)
        cases c with
        | true =>
          obtain ⟨hp1, g1, d1, tk1, os1⟩ := s1
          wp_walk
          exact ⟨_, rfl, hc⟩
        | false =>
          obtain ⟨hp1, g1, d1, tk1, os1⟩ := s1
          wp_walk
          exact ⟨rfl, .inr (.inr ⟨rfl, hc⟩)⟩
      · cases hr
    case fin =>
      rintro ⟨b1, b2⟩ s' ⟨hb, ⟨hr, rfl⟩ | ⟨hr, h2⟩ | ⟨hr, hq⟩⟩
      · cases hr
      · cases hr
      · simp only at hb
        subst hb
        obtain ⟨hp1, g1, d1, tk1, os1⟩ := s'
        wp_walk
        exact ⟨_, rfl, hq⟩
    case h =>
      exact ⟨rfl, .inl ⟨hit, rfl⟩⟩
  show wpAny _ A (do return .bool (← contains (.ref l) x)) Q E s
  refine wpAny_bind (wpAny_contains_slot hT PySem.F.slot_tuple_contains (wpAny_mono (Q := fun v s' => ∃ b, v = .bool b ∧ Q (.bool b) s') ?_ (fun v s' hv => ?_) fun _ _ e => e))
  · refine wpAny_call (codeAny_call_builtin PySem.F.slot_tuple_contains.plain PySem.F.entry_tuple_contains (PySem.F.slot_tuple_contains.check _ _ _ _ _ _ _ _ hT (PySem.F.args_tuple_contains_2 _ _) ?_))
    refine wpAny_mono body (fun fin s' hf => ?_) fun _ _ e => e
    obtain ⟨b, rfl, hq⟩ := hf
    exact ⟨b, rfl, hq⟩
  · obtain ⟨b, rfl, hq⟩ := hv
    exact wpAny_truthy_bool (wpAny_pure hq)
theorem eqB_same {Q : Bool → Shared → Prop} (h : Q true s) : wpAny (model prog w) A (eqBool u1 u1) Q E s := by
  unfold eqBool
  refine wpAny_holding ?_
  rw [if_pos (beq_self_eq_true u1)]
  exact wpAny_bind (wpAny_rule (wpAny_pure h))
theorem eqB_other {Q : Bool → Shared → Prop} {a b : Addr} (hn : a ≠ b) (h : wpAny (model prog w) A (richCompare .Eq (.ref a) (.ref b)) (fun v s' => ∃ c, v = .bool c ∧ Q c s') E s) : wpAny (model prog w) A (eqBool (.ref a) (.ref b)) Q E s := by
  unfold eqBool
  refine wpAny_holding ?_
  rw [if_neg (show ¬ ((Value.ref a == Value.ref b) = true) from fun z => hn (Value.ref.inj (beq_iff_eq.mp z)))]
  refine wpAny_bind (wpAny_mono h (fun v s' hv => ?_) fun _ _ e => e)
  obtain ⟨c, rfl, hq⟩ := hv
  exact wpAny_truthy_bool hq
end
end L3
namespace L3
open PySem PySem.Spec PyProof.Rows L2 LamX L2H
/-! ## defs called while an error is handled -/
structure FnQ (P : Program) (w : World) (K : PySem.W.Frag) (mg : Str → Option Value) (base : Heap) (CX : CXT) (k : Nat) (f : Addr) (fd : FuncData) (ps : List Str) (sp : Sp) : Prop where
  len : ∀ vs H Q E, sp vs H Q E → vs.length = ps.length
  run : ∀ (A : Around) (fr : List Env) (s : Shared) (H : Hp) (as : Args) (us : List Value) (vs : List V) (Q : VK) (E : XK) (p : Addr × Obj), RoomH k A → PinOk fr H s p → Env0 P w K mg base A fr s H → BindsTo s fd as (ps.zip us) → Vals vs us → sp vs H Q E →
    codeAny (model P w) A (.call (.ref f) as) (CR CX fr P w H s Q E) s
theorem funQ {P : Program} {w : World} {K : PySem.W.Frag} {mg : Str → Option Value} {base : Heap} {CX : CXT} {x qual : Str} {st : Stmt} {f : Addr} {fd : FuncData} {N ps : List Str} {k : Nat} {sp : Sp}
    (F : L2.Fun K x qual st f fd) (S : FnScope N ps (defScope st)) (len : ∀ vs H Q E, sp vs H Q E → vs.length = ps.length)
    (body : ∀ (cd : Value) (A : Around) (fr : List Env) (s : Shared) (H : Hp) (vs : List V) (Q : VK) (E : XK) (p : Addr × Obj), RoomH k (A.deeper (envOfC qual (defScope st) s.heap.objs.size f cd)) → sp vs H Q E →
      ∃ t, PSs (cxH CX P w K mg base N qual (defScope st) f cd A fr s H E p) (defBody st) t ∧ t { nx := fun _ H' => Q .non H', rt := Q } (L2.start N vs) H) :
    FnQ P w K mg base CX (k + 1) f fd ps sp := by
  obtain ⟨oc, od, kV, doc, pm, an, cd, ct, sl, rfl, lk, hcd⟩ := F.ex
  refine ⟨len, fun A fr s H as us vs Q E p hr hpin e0 hb r hsp => ?_⟩
  have hl := len _ _ _ _ hsp
  have hin : K.In s.heap := e0.mod.kin.keeps fun b o e => (e0.bs b o e).1
  have nol : s.heap.NoLimit := e0.mod.nolimit.keeps fun b o e => (e0.bs b o e).1
  refine codeAny_call_function hr.depth (hin _ _ lk) rfl S.co S.gen rfl (PySem.W.codeRec_of hin hcd) (hb _ _ _ _ ?_)
  refine wpAny_newFunctionEnv_cells S.kind (fun ⟨n, v⟩ hy => ?_) fun env he s1 y => ?_
  · exact (S.par n (List.of_mem_zip hy).1).elim .inl fun q => .inr ⟨q, PySem.W.cellsFrom_some _ _ _ (.inl q)⟩
  subst he
  refine ⟨nol.keeps y.toInCall.keep, codeAny_func ?_⟩
  obtain ⟨t, ht, hq⟩ := body cd A fr s H vs Q E p (hr.deeper _) hsp
  have I := inv_startH (CX := CX) (E := E) S hpin e0 hl r y
  refine wpAny_mono (ht.run [] s1 (L2.start N vs) H _ I hq) (fun fl s' hs => ?_) fun e s' hs => hs
  match fl, hs with
  | .ret u, ⟨v, σ', H', J, rv, q⟩ => exact ⟨v, H', J.os, J.bare, J.base, J.hok, rv, q⟩
  | .next, ⟨σ', H', J, q⟩ => exact ⟨V.non, H', J.os, J.bare, J.base, J.hok, rfl, q⟩
  | .brk, ⟨_, _, _, q⟩ => exact False.elim q
  | .cont, ⟨_, _, _, q⟩ => exact False.elim q
theorem roomH_in1 {k : Nat} {A : Around} (r : RoomH (k + 1) A) : RoomH k A.in1 := ⟨by have := r.dp; show A.depth + 3 * k + 5 < _; omega, by have := r.un; show A.units + 1 + 16 * k + 200 < _; omega⟩
structure MeQ (P : Program) (w : World) (K : PySem.W.Frag) (mg : Str → Option Value) (base : Heap) (C : Addr) (m : Str) (k : Nat) (ps : List Str) (sp : Sp) : Prop where
  ex : ∃ (f : Addr) (fd : FuncData), PySem.W.findIn K (.ref C) m = some (some (.ref f)) ∧ PySem.W.isFn K (.ref f) = true ∧ FnQ P w K mg base CX0 k f fd ps sp ∧ L2.Binds K fd ps []
/-- x in (a, b), both of the class: the first itself, or the second itself and unlike the first -/
def rIn2 (C : Addr) (sp : Sp) : R2 := fun x y H Q => ∃ q t a b, x = .ref q ∧ y = .ref t ∧ H t = some (.tup [.ref a, .ref b]) ∧ ((q = a ∧ Q (.bl true) H) ∨ (q = b ∧ a ≠ q ∧ (∃ dx fs, H a = some (.ins C dx fs)) ∧ (∃ dx fs, H q = some (.ins C dx fs)) ∧ sp [.ref a, .ref q] H (fun v H' => v = .bl false ∧ Q (.bl true) H') E0))
theorem opIn2 {X : Cx} {C : Addr} {k j : Nat} {sp : Sp} {p : Addr × Obj} (hp : p ∈ X.pn) (F : CmpF X.K C) (B : MeQ X.prog X.w X.K X.mg X.base C "__eq__" k ["self", "other"] sp) (hr : RoomH (j + 1) X.A) (hk : k ≤ j := by decide) : OpR X (compareOp .In) (rIn2 C sp) := by
  obtain ⟨f, fd, h1, h2, G, b⟩ := B.ex
  intro pins s σ H x y v u Q I rx ry h
  obtain ⟨q, t, a, b', rfl, rfl, ht, hc⟩ := h
  obtain rfl : v = Value.ref q := rx
  obtain rfl : u = Value.ref t := ry
  obtain ⟨_, its, r, o, e1, e2, n, e3⟩ := (show ObjOk X.prog X.w H s.heap t (.tup _) from I.hok t _ ht)
  obtain ⟨w1, w2, rfl, r1, r2⟩ := vals2 r
  cases (show w1 = Value.ref a from r1)
  cases (show w2 = Value.ref b' from r2)
  obtain ⟨c0, d0, da, s0⟩ := o
  simp only at e2 e3
  subst e2 e3
  refine in2 (u1 := .ref a) (u2 := .ref b') e1 rfl ?_
  rcases hc with ⟨rfl, hq⟩ | ⟨rfl, hn, ⟨dx, fs, ea⟩, ⟨dx', fs', eq⟩, hs⟩
  · exact eqB_same (.inl ⟨rfl, .bl true, H, I, rfl, hq⟩)
  · obtain ⟨od, J⟩ := ins_inst I.hok ea
    obtain ⟨od', J'⟩ := ins_inst I.hok eq
    have P1 := I.pin p (List.mem_append_left _ hp)
    have hpin : PinOk X.stack H s p := ⟨P1.1, P1.2.1, fun hm => (List.mem_cons.mp (I.stkSub p.1 hm)).elim P1.2.2.1 P1.2.2.2.1, P1.2.2.2.2⟩
    have hu : X.A.in1.units < cLine := by have := hr.un; show X.A.units + 1 < _; omega
    refine eqB_other hn (cmp_first (f := "__eq__") hu I.kIn J J'.type F.notC rfl (try_own (Q := fun v s' => ∃ c, v = .bool c ∧ _) I.kIn J h1 h2 ?_))
    refine wpAny_call (codeAny_mono (G.run X.A.in1 X.stack s H ⟨[.ref a, .ref q], []⟩ [.ref a, .ref q] [.ref a, .ref q] _ E0 p ((roomH_in1 hr).mono hk) hpin I.env0.in1 (by have := b s [.ref a, .ref q] I.kIn rfl; rw [List.append_nil] at this; exact this) (.cons (show RelV (.ref a) (.ref a) from rfl) (.cons (show RelV (.ref q) (.ref q) from rfl) .nil)) hs) fun r s' z => ?_)
    match r, z with
    | .error e, z => exact z.elim
    | .ok (.ret u), z =>
      obtain ⟨v', H', I', r', rfl, q'⟩ := I.after z
      cases (show u = Value.bool false from r')
      exact ⟨false, rfl, .inr ⟨rfl, eqB_same ⟨.bl true, H', I', rfl, q'⟩⟩⟩
/-- isinstance of the error that the suite holds -/
def rIsP (K : PySem.W.Frag) (a : Addr) (cls : Value) (d : Option Addr) : List V → Hp → VK → Prop := fun xs H Q => ∃ (C dd : Addr) (c : V) (u : Value) (fs : List (Str × V)) (b : Bool), xs = [.ref a, c] ∧ ClsV c u ∧ cls = .ref C ∧ d = some dd ∧ H dd = some (.xd fs) ∧ ExcC K C ∧ PySem.W.kitOne K (.ref C) u = some b ∧ Q (.bl b) H
theorem isiPin {X : Cx} {a : Addr} {oe : Obj} {cls : Value} {d : Option Addr} {pn : List (Addr × Obj)} (hz : Zc cls d oe) (hf : ∃ vs, oe.data = .fields vs) : CallR (X.suite a ((a, oe) :: pn)) (.builtin "isinstance") (rIsP X.K a cls d) := by
  intro pins s σ H xs us Q I r h
  obtain ⟨C, dd, c, u, fs, b, rfl, k, rfl, rfl, ed, T, e, q⟩ := h
  obtain ⟨u1, u2, rfl, r1, r2⟩ := vals2 r
  have e2 := k.eq r2
  subst e2
  cases (show u1 = Value.ref a from r1)
  obtain ⟨hget, _⟩ := I.pin (a, oe) (List.mem_append.mpr (.inl List.mem_cons_self))
  obtain ⟨vs, hv⟩ := hf
  obtain ⟨mA, hns, hr⟩ := (show ObjOk X.prog X.w H s.heap dd (.xd fs) from I.hok dd _ ed)
  obtain ⟨od, ho, hl⟩ := lookIn_ns hns
  have J : PySem.W.InstAt s.heap a oe C (some od) := ⟨hget, hz.1, by unfold PySem.W.notCls; rw [hv] <;> rfl, by rw [hz.2]; exact ho⟩
  exact PySem.W.kia_one (kit_exc T) I.kIn ⟨oe, od, J⟩ e (fun z => nomatch z) fun tk => ⟨.bl b, H, I.tok tk, rfl, q⟩
end L3
end
section
namespace L3
open PySem PySem.Spec PyProof.Rows L2 LamX ClX
/-! ## static methods called on their class -/
structure StM (P : Program) (w : World) (K : PySem.W.Frag) (mg : Str → Option Value) (base : Heap) (CX : CXT) (k : Nat) (C : Addr) (m : Str) (ps : List Str) (sp : Sp) : Prop where
  ex : ∃ (mc : Value) (p g : Addr) (gd : FuncData) (rest : List Value), CRead K C mc ∧ PySem.W.findCls K (.ref C) mc m = some (.get (.builtin "staticmethod.__get__") (.ref p) .none (.ref C)) ∧ PySem.W.recIn K p "staticmethod" = some (.ref g :: rest) ∧ PySem.W.handedIn (.ref g) = true ∧
    PySem.W.keepIn K (.ref g) = true ∧ FnOk P w K mg base CX k g gd ps sp ∧ L2.Binds K gd ps [] ∧ ∀ (s : Shared) (ws : List Value), K.In s.heap → ws.length = ps.length → BindsTo s gd ⟨[], ps.zip ws⟩ (ps.zip ws)
def tSt (C : Addr) (sp : Sp) (E : XK) (ta : TE) (t : TA) : TE := fun σ H Q => ta σ H fun x H1 => x = .ref C ∧ t σ H1 fun vs H2 => sp vs H2 Q E
section
variable {X : Cx} {CX : CXT} {k j : Nat} {C : Addr} {sp : Sp} {E : XK} {o e : Expr} {es : List Expr} {m : Str} {ps : List Str} {pos apos : Pos} {ta : TE} {t : TA} {pl : Sem Bool}
theorem getst {pins : List (Addr × Obj)} {σ : L2.St} {H : Hp} {s : Shared} {A : Around} {E' : Value → Shared → Prop} {Q : Value × List Value → Shared → Prop} {mc : Value} {p g : Addr} {rest : List Value} (I : Inv X pins σ H s) (r : CRead X.K C mc) (h1 : PySem.W.findCls X.K (.ref C) mc m = some (.get (.builtin "staticmethod.__get__") (.ref p) .none (.ref C)))
    (h2 : PySem.W.recIn X.K p "staticmethod" = some (.ref g :: rest)) (h3 : PySem.W.handedIn (.ref g) = true) (h : ∀ s', Inv X pins σ H s' → Q (.ref g, []) s') : wpAny (model X.prog X.w) A (getMethod (.ref C) m pl) Q E' s :=
  PySem.W.method_cls I.kIn r.ga (PySem.W.cls_bind I.kIn r.rd h1 (wpAny_call (PySem.W.sm_get (s := { s with toks := s.toks + 1 }) I.kIn h2 (PySem.W.handed_on h3 (h _ (I.tok _))))))
theorem pe_st (c : StM X.prog X.w X.K X.mg X.base CX k C m ps sp) (hr : Room j X.A) (hx : Passes CX X E) (he : PE X o ta) (ha : PA X (e :: es) t) (hk : k ≤ j := by decide)
    (hst : starEach (e :: es) X.env = (false, eval e X.env) :: starEach es X.env := by rfl) (hpl : (backTo pos (starEach es X.env)).any (·.1) = false := by rfl)
    (ht : eval (.Call (.Attribute o m apos) (e :: es) [] pos) X.env = (do
      let ov ← eval o X.env
      standAt apos.atName
      let (f, first) ← holding [ov] (getMethod ov m pl)
      callWith pos f first (backTo pos (starEach (e :: es) X.env)) (backToKw pos (keywordEach [] X.env))) := by rfl) :
    PE X (.Call (.Attribute o m apos) (e :: es) [] pos) (tSt C sp E ta t) := by
  obtain ⟨mc, p, g, gd, rest, r, h1, h2, h3, kp, F, b, _⟩ := c.ex
  refine ⟨fun pins s σ H Q I h => ?_⟩
  refine PySem.W.methodCall_KW (pl := pl) (thn (he.run pins s σ H _ I h) fun u s1 hh => ?_) ht
  obtain ⟨x, H1, I1, rx, ex, q⟩ := hh
  subst ex
  obtain rfl : u = Value.ref C := rx
  refine getst I1 r h1 h2 h3 fun s2 I2 => ?_
  refine PySem.W.callWith_K (h₀ := X.base) (first := []) I2.ok.mod.kin kp (thn (ha.run pos pins s2 σ H1 _ I2 q) fun us s3 hh => ?_) hst hpl
  obtain ⟨vs, H2, I3, rv, q2⟩ := hh
  exact ⟨I3.kIn, run_fn F (hr.mono hk) b .nil hx I3 rv (by rw [List.append_nil]; exact q2)⟩
theorem pe_stk {kws : List Keyword} (c : StM X.prog X.w X.K X.mg X.base CX k C m ps sp) (hr : Room j X.A) (hx : Passes CX X E) (he : PE X o ta) (ha : PK X kws t) (hk : k ≤ j := by decide)
    (hall : (backToKw pos (keywordEach kws X.env)).all (·.1.isSome) = true := by rfl) (hks : (backToKw pos (keywordEach kws X.env)).filterMap (·.1) = ps := by rfl) (hpl : ((backTo pos (starEach [] X.env)).any (·.1) || (backToKw pos (keywordEach kws X.env)).any (·.1.isNone)) = false := by rfl)
    (ht : eval (.Call (.Attribute o m apos) [] kws pos) X.env = (do
      let ov ← eval o X.env
      standAt apos.atName
      let (f, first) ← holding [ov] (getMethod ov m pl)
      callWith pos f first (backTo pos (starEach [] X.env)) (backToKw pos (keywordEach kws X.env))) := by rfl) :
    PE X (.Call (.Attribute o m apos) [] kws pos) (tSt C sp E ta t) := by
  obtain ⟨mc, p, g, gd, rest, r, h1, h2, h3, kp, F, _, b⟩ := c.ex
  refine ⟨fun pins s σ H Q I h => ?_⟩
  refine PySem.W.methodCall_KW (pl := pl) (thn (he.run pins s σ H _ I h) fun u s1 hh => ?_) ht
  obtain ⟨x, H1, I1, rx, ex, q⟩ := hh
  subst ex
  obtain rfl : u = Value.ref C := rx
  refine getst I1 r h1 h2 h3 fun s2 I2 => ?_
  refine PySem.W.callWith_KW0 (h₀ := X.base) (first := []) I2.ok.mod.kin kp hall (thn (ha.run pos pins s2 σ H1 _ I2 q) fun us s3 hh => ?_) hpl
  obtain ⟨vs, H2, I3, rv, q2⟩ := hh
  rw [hks]
  refine ⟨I3.kIn, ?_⟩
  have hl : us.length = ps.length := by rw [← rv.length]; exact F.len _ _ _ _ q2
  refine wpAny_call (codeAny_mono (F.run X.A X.stack s3 H2 ⟨[], ps.zip us⟩ us vs Q E (hr.mono hk) I3.env0 (b s3 us I3.kIn hl) rv q2) fun y s' z => ?_)
  match y, z with
  | .error e, z => exact hx pins σ H2 s3 e s' I3 z
  | .ok (.ret u), z => exact I3.after z
end
end L3
end
section
namespace L3
open PySem PySem.Spec PyProof.Rows L2 LamX L2H
/-- x == y by the own ==, while an error is handled -/
theorem cmpHot {X : Cx} {C : Addr} {k j : Nat} {sp : Sp} {p : Addr × Obj} (hp : p ∈ X.pn) (F : CmpF X.K C) (B : MeQ X.prog X.w X.K X.mg X.base C "__eq__" k ["self", "other"] sp) (hr : RoomH j X.A) (hk : k ≤ j := by decide) : OpR X (compareOp .Eq) (rOwn C sp E0) := by
  obtain ⟨f, fd, h1, h2, G, b⟩ := B.ex
  intro pins s σ H x y v u Q I rx ry h
  obtain ⟨a, dx, fs, rfl, ea, ho, q⟩ := h
  obtain rfl : v = Value.ref a := rx
  obtain ⟨od, J⟩ := ins_inst I.hok ea
  obtain ⟨tb, L, nf⟩ := oth_looks F I ry ho
  have P1 := I.pin p (List.mem_append_left _ hp)
  have hpin : PinOk X.stack H s p := ⟨P1.1, P1.2.1, fun hm => (List.mem_cons.mp (I.stkSub p.1 hm)).elim P1.2.2.1 P1.2.2.2.1, P1.2.2.2.2⟩
  show wpAny _ _ (richCompare .Eq _ _) _ _ _
  refine cmp_first (f := "__eq__") (by have := hr.un; omega) I.kIn J L nf rfl (try_own I.kIn J h1 h2 ?_)
  refine wpAny_call (codeAny_mono (G.run X.A X.stack s H ⟨[.ref a, u], []⟩ [.ref a, u] [.ref a, y] Q E0 p (hr.mono hk) hpin I.env0 (by have := b s [.ref a, u] I.kIn rfl; rw [List.append_nil] at this; exact this) (.cons (show RelV (.ref a) (.ref a) from rfl) (.cons ry .nil)) q) fun r s' z => ?_)
  match r, z with
  | .error e, z => exact z.elim
  | .ok (.ret w'), z =>
    obtain ⟨v', H', I', r', q'⟩ := I.after z
    exact rel_back r' ⟨v', H', I', r', q'⟩
end L3
end
section
namespace L3
open PySem PySem.Spec PyProof.Rows L2 LamX
/-! ## Ratio made of any values (k04) -/
section
variable {C CB : Addr} {H H' : Hp} {Q : VK} {E : XK}
/-- no integer: another value or a fraction -/
def OdR (C : Addr) (H : Hp) (x : V) : Prop := (∃ t, Od H x t) ∨ ∃ q o u, x = .ref q ∧ Rt C H q o u
theorem OdR.exN {x : V} (h : OdR C H x) (e : ExtN H H') : OdR C H' x := by
  rcases h with ⟨t, h⟩ | ⟨q, o, u, rfl, h⟩
  · exact .inl ⟨t, h.exN e⟩
  · exact .inr ⟨q, o, u, rfl, h.exN e⟩
def spIsI4 (C : Addr) : Sp := fun vs H Q _ => ∃ x, vs = [x] ∧ ((∃ i, x = .int i ∧ Q (.bl true) H) ∨ (OdR C H x ∧ Q (.bl false) H))
def spRatio4 (C CB : Addr) : Sp := fun vs H Q E => ∃ (p dx : Addr) (x y : V), vs = [.ref p, x, y] ∧ H p = some (.ins C dx []) ∧
  ((∃ a b : Int, x = .int a ∧ y = .int b ∧ b ≠ 0 ∧ b.natAbs < 2 ^ 8000 ∧ ∀ H', (∀ c, c ≠ p → H' c = H c) → H' p = some (.ins C dx (flds (rO a b) (rU' a b))) → Q .non H') ∨
    (OdR C H x ∧ Rz CB "value" x H E) ∨ (∃ a : Int, x = .int a ∧ (OdR C H y ∨ y = .int 0) ∧ Rz CB "value" y H E))
theorem s_mkR4 {a b : Int} (hb : b ≠ 0) (h8 : b.natAbs < 2 ^ 8000) (h : ∀ q H', H q = none → Ex H H' → Rt C H' q (rO a b) (rU' a b) → Q (.ref q) H') :
    ∀ p dx, H p = none → H dx = none → dx ≠ p → spRatio4 C CB (.ref p :: ([.int a, .int b] ++ [])) (upd (upd H dx (.own p)) p (.ins C dx [])) (fun v H2 => v = .non ∧ ap Q (.ref p) H2) E := fun p dx hp hd hn => by
  refine ⟨p, dx, _, _, rfl, upd_same, .inl ⟨a, b, rfl, rfl, hb, h8, fun H' h1 h2 => ⟨rfl, h p H' hp (fun c o e => ?_) ⟨dx, h2⟩⟩⟩⟩
  rw [h1 c (ne_of_none e hp), upd_ne (ne_of_none e hp), upd_ne (ne_of_none e hd)]
  exact e
theorem s_mkR14 {a : Int} (h : ∀ q H', H q = none → Ex H H' → Rt C H' q a 1 → Q (.ref q) H') :
    ∀ p dx, H p = none → H dx = none → dx ≠ p → spRatio4 C CB (.ref p :: ([.int a] ++ [.int 1])) (upd (upd H dx (.own p)) p (.ins C dx [])) (fun v H2 => v = .non ∧ ap Q (.ref p) H2) E := by
  refine s_mkR4 (a := a) (b := 1) (by decide) (by decide) fun q H' h1 h2 h3 => h q H' h1 h2 ?_
  rw [(r_one a).1, (r_one a).2] at h3
  exact h3
/-- the new instance and its dict, as a heap -/
theorem mk_ex {p dx : Addr} (hp : H p = none) (hd : H dx = none) : Ex H (upd (upd H dx (.own p)) p (.ins C dx [])) := fun c o e => by
  rw [upd_ne (ne_of_none e hp), upd_ne (ne_of_none e hd)]
  exact e
/-- Ratio(x, y) refused -/
theorem s_mkB1 {x y : V} (hx : OdR C H x) (h : Rz CB "value" x H E) : ∀ p dx, H p = none → H dx = none → dx ≠ p → spRatio4 C CB (.ref p :: ([x, y] ++ [])) (upd (upd H dx (.own p)) p (.ins C dx [])) (fun v H2 => v = .non ∧ ap Q (.ref p) H2) E := fun p dx hp hd hn =>
  ⟨p, dx, x, y, rfl, upd_same, .inr (.inl ⟨hx.exN (mk_ex hp hd).n, h.ex (mk_ex hp hd)⟩)⟩
theorem s_mkB11 {x : V} (hx : OdR C H x) (h : Rz CB "value" x H E) : ∀ p dx, H p = none → H dx = none → dx ≠ p → spRatio4 C CB (.ref p :: ([x] ++ [.int 1])) (upd (upd H dx (.own p)) p (.ins C dx [])) (fun v H2 => v = .non ∧ ap Q (.ref p) H2) E := fun p dx hp hd hn =>
  ⟨p, dx, x, .int 1, rfl, upd_same, .inr (.inl ⟨hx.exN (mk_ex hp hd).n, h.ex (mk_ex hp hd)⟩)⟩
theorem s_mkB2 {a : Int} {y : V} (hy : OdR C H y ∨ y = .int 0) (h : Rz CB "value" y H E) : ∀ p dx, H p = none → H dx = none → dx ≠ p → spRatio4 C CB (.ref p :: ([.int a, y] ++ [])) (upd (upd H dx (.own p)) p (.ins C dx [])) (fun v H2 => v = .non ∧ ap Q (.ref p) H2) E := fun p dx hp hd hn =>
  ⟨p, dx, .int a, y, rfl, upd_same, .inr (.inr ⟨a, rfl, hy.imp (fun z => z.exN (mk_ex hp hd).n) id, h.ex (mk_ex hp hd)⟩)⟩
end
end L3
end
section
namespace L3
open PySem PySem.Spec PyProof.Rows L2 LamX
namespace KX
variable {X : Cx} {K : PySem.W.Frag} (hK : X.K = K)
include hK
theorem isiTT : CallR X (.builtin "isinstance") (rIsiT K) := by subst hK; exact call_isiT
theorem slT : SlR X (rSlT K) := by subst hK; exact sl_tup
end KX
section
variable {K : PySem.W.Frag} {C CB : Addr} {H H' : Hp} {Q : VK} {E : XK}
theorem kit_lt {a : String} {b1 b2 : Bool} (h1 : kitB a "list" = some b1) (h2 : kitB a "tuple" = some b2) : PySem.W.kitAny K (.type a) [.type "list", .type "tuple"] = some (b1 || b2) := by
  have e1 := kit_ty (K := K) h1
  have e2 := kit_ty (K := K) h2
  unfold PySem.W.kitAny
  unfold PySem.W.kitAny
  unfold PySem.W.kitAny
  rw [e1, e2]
  cases b1 <;> cases b2 <;> rfl
theorem s_isiLT {x : V} {q : Addr} {t : Value} {b : Bool} (hq : H q = some (.tup [.ty "list", .ty "tuple"])) (ty : TyX K H x t) (e : PySem.W.kitAny K t [.type "list", .type "tuple"] = some b) (h : Q (.bl b) H) : rIsiT K [x, .ref q] H Q :=
  ⟨x, q, _, t, _, b, rfl, hq, .cons (.ty _) (.cons (.ty _) .nil), ty, e, h⟩
theorem s_lenT {R : Nat → Prop} {p : Addr} {xs : List V} (hp : H p = some (.tup xs)) (h : R xs.length) : ∃ x n, [V.ref p] = [x] ∧ LenV K x H n ∧ R n := ⟨_, _, rfl, .inr ⟨xs, .inl (.inl hp), rfl⟩, h⟩
theorem s_slT1 {p : Addr} {x0 : V} {xr : List V} (hs : H p = some (.tup (x0 :: xr))) (h : ∀ q H2, H q = none → Ex H H2 → H2 q = some (.tup xr) → Q (.ref q) H2) : rSlT K (.ref p) (some 1) none H Q := by
  refine ⟨p, _, rfl, .inl (.inl hs), ?_, fun q hq => h q _ hq (ex_new hq) ?_⟩
  · rintro ⟨h1, _⟩
    have : HT.sIx (x0 :: xr).length 0 (some ((1 : Nat) : Int)) = 0 := h1
    rw [HT.sIx_nat, List.length_cons] at this
    omega
  · rw [upd_same]
    have : cutV (x0 :: xr) (some ((1 : Nat) : Int)) none = xr := by
      unfold cutV
      rw [HT.sIx_nat]
      have e : min 1 (x0 :: xr).length = 1 := by rw [List.length_cons]; omega
      rw [e, List.drop_one, List.tail_cons]
      exact List.take_of_length_le (by show xr.length ≤ (x0 :: xr).length - 1; rw [List.length_cons]; omega)
    exact congrArg (fun z => some (HO.tup z)) this
theorem s_slL1 {p : Addr} {x0 : V} {xr : List V} (hs : H p = some (.lst (x0 :: xr))) (h : ∀ q H2, H q = none → Ex H H2 → H2 q = some (.lst xr) → Q (.ref q) H2) : rSlU K (.ref p) (some 1) none H Q := by
  refine s_slL (.inl (.inl hs)) fun q H2 hq e2 h2 => h q H2 hq e2 ?_
  rw [h2]
  have : cutV (x0 :: xr) (some ((1 : Nat) : Int)) none = xr := by
    unfold cutV
    rw [HT.sIx_nat]
    have e : min 1 (x0 :: xr).length = 1 := by rw [List.length_cons]; omega
    rw [e, List.drop_one, List.tail_cons]
    exact List.take_of_length_le (by show xr.length ≤ (x0 :: xr).length - 1; rw [List.length_cons]; omega)
  exact congrArg (fun z => some (HO.lst z)) this
/-! ## the greatest of some numbers -/
def gst (p q : Int × Int) : Int × Int := if p.1 * q.2 < q.1 * p.2 then q else p
inductive Nms (C : Addr) (H : Hp) : List V → List (Int × Int) → Prop
  | nil : Nms C H [] []
  | cons {v : V} {vs : List V} {q : Int × Int} {qs : List (Int × Int)} : Nm C H v q.1 q.2 → Bd q.1 q.2 → Nms C H vs qs → Nms C H (v :: vs) (q :: qs)
theorem Nm.ex' {v : V} {o u : Int} (h : Nm C H v o u) (e : Ex H H') : Nm C H' v o u := by
  rcases h with ⟨q, rfl, r⟩ | h
  · exact .inl ⟨q, rfl, r.ex e⟩
  · exact .inr h
theorem Nms.ex {vs : List V} {qs : List (Int × Int)} (h : Nms C H vs qs) (e : Ex H H') : Nms C H' vs qs := by
  induction h with
  | nil => exact .nil
  | cons a b _ ih => exact .cons (a.ex' e) b ih
theorem Nms.length {vs : List V} {qs : List (Int × Int)} (h : Nms C H vs qs) : vs.length = qs.length := by
  induction h with
  | nil => rfl
  | cons _ _ _ b => simp [b]
theorem Nms.get {vs : List V} {qs : List (Int × Int)} (h : Nms C H vs qs) : ∀ {i : Nat} {x : V}, vs[i]? = some x → ∃ q, qs[i]? = some q ∧ Nm C H x q.1 q.2 ∧ Bd q.1 q.2 := by
  induction h with
  | nil => intro i x e; simp at e
  | cons a b _ ih =>
    intro i x e
    cases i with
    | zero => cases e; exact ⟨_, rfl, a, b⟩
    | succ i => exact ih (by simpa using e)
theorem gst_bd {p q : Int × Int} (hp : Bd p.1 p.2) (hq : Bd q.1 q.2) : Bd (gst p q).1 (gst p q).2 := by
  unfold gst; split <;> assumption
/-- no list, no tuple; or an empty one -/
inductive NoLT (H : Hp) : V → Prop
  | non : NoLT H .non
  | bl (b : Bool) : NoLT H (.bl b)
  | int (i : Int) : NoLT H (.int i)
  | str (z : Str) : NoLT H (.str z)
  | dic {p : Addr} {kvs : List (Key × V)} : H p = some (.dK kvs) → NoLT H (.ref p)
theorem NoLT.ty {v : V} (h : NoLT H v) : ∃ t, TyX K H v t ∧ PySem.W.kitAny K t [.type "list", .type "tuple"] = some false := by
  cases h with
  | non => exact ⟨_, .base .non, kit_lt (b1 := false) (b2 := false) (by decide +kernel) (by decide +kernel)⟩
  | bl b => exact ⟨_, .base (.bl b), kit_lt (b1 := false) (b2 := false) (by decide +kernel) (by decide +kernel)⟩
  | int b => exact ⟨_, .base (.int b), kit_lt (b1 := false) (b2 := false) (by decide +kernel) (by decide +kernel)⟩
  | str b => exact ⟨_, .base (.str b), kit_lt (b1 := false) (b2 := false) (by decide +kernel) (by decide +kernel)⟩
  | dic h => exact ⟨_, .base (.dK h), kit_lt (b1 := false) (b2 := false) (by decide +kernel) (by decide +kernel)⟩
def GrL (C CB : Addr) (H : Hp) (Q : VK) (E : XK) (xs : List V) : Prop := ∃ ys qs rest, xs = ys ++ rest ∧ Nms C H ys qs ∧
  ((rest = [] ∧ ∃ q0 qr, qs = q0 :: qr ∧ ∀ p H', Ex H H' → Rt C H' p (qr.foldl gst q0).1 (qr.foldl gst q0).2 → Q (.ref p) H') ∨ ∃ z t rest', rest = z :: rest' ∧ Od H z t ∧ Rz CB "value" z H E)
def spGr (C CB : Addr) : Sp := fun vs H Q E => ∃ x, vs = [x] ∧
  ((∃ a xs, x = .ref a ∧ H a = some (.lst xs) ∧ GrL C CB H Q E xs) ∨ (∃ a xs, x = .ref a ∧ H a = some (.tup xs) ∧ GrL C CB H Q E xs) ∨
   ((NoLT H x ∨ ∃ a, x = .ref a ∧ (H a = some (.lst []) ∨ H a = some (.tup []))) ∧ Rz CB "value" x H E))
theorem NoLT.ex {v : V} (h : NoLT H v) (e : Ex H H') : NoLT H' v := by
  cases h with
  | non => exact .non
  | bl b => exact .bl b
  | int b => exact .int b
  | str b => exact .str b
  | dic h => exact .dic (e _ _ h)
theorem Nms.bdF {vs : List V} {qs : List (Int × Int)} (h : Nms C H vs qs) : ∀ {q0 : Int × Int}, Bd q0.1 q0.2 → ∀ i, Bd ((qs.take i).foldl gst q0).1 ((qs.take i).foldl gst q0).2 := by
  induction h with
  | nil => intro q0 h0 i; rw [List.take_nil]; exact h0
  | cons a b _ ih =>
    intro q0 h0 i
    cases i with
    | zero => exact h0
    | succ i => rw [List.take_succ_cons, List.foldl_cons]; exact ih (gst_bd h0 b) i
theorem fold_succ {qs : List (Int × Int)} {i : Nat} {q q0 : Int × Int} (h : qs[i]? = some q) : (qs.take (i + 1)).foldl gst q0 = gst ((qs.take i).foldl gst q0) q := by
  rw [List.take_succ, h, List.foldl_append]; rfl
theorem GrL.first {xs : List V} (h : GrL C CB H Q E xs) : ∃ x0 xr, xs = x0 :: xr ∧ ((∃ t, Od H x0 t ∧ Rz CB "value" x0 H E) ∨
    ∃ q0 qr yr rest, Nm C H x0 q0.1 q0.2 ∧ Bd q0.1 q0.2 ∧ xr = yr ++ rest ∧ Nms C H yr qr ∧ ((rest = [] ∧ ∀ p H', Ex H H' → Rt C H' p (qr.foldl gst q0).1 (qr.foldl gst q0).2 → Q (.ref p) H') ∨ ∃ z t rest', rest = z :: rest' ∧ Od H z t ∧ Rz CB "value" z H E)) := by
  obtain ⟨ys, qs, rest, rfl, hn, hc⟩ := h
  cases hn with
  | nil =>
    rcases hc with ⟨_, q0, qr, e, _⟩ | ⟨z, t, rest', rfl, h1, h2⟩
    · cases e
    · exact ⟨z, rest', rfl, .inl ⟨t, h1, h2⟩⟩
  | cons a b c =>
    refine ⟨_, _, rfl, .inr ⟨_, _, _, rest, a, b, rfl, c, ?_⟩⟩
    rcases hc with ⟨e, q0, qr, e2, k⟩ | h
    · cases e2; exact .inl ⟨e, k⟩
    · exact .inr h
/-- the item of the walk: a number, or the odd one at the end -/
theorem gr_item {yr rest : List V} {qr : List (Int × Int)} {i : Nat} {x : V} {A : Prop} (hn : Nms C H yr qr) (hi : i ≤ qr.length) (hx : (yr ++ rest)[i]? = some x)
    (hc : (rest = [] ∧ A) ∨ ∃ z t rest', rest = z :: rest' ∧ Od H z t ∧ Rz CB "value" z H E) :
    (∃ q, qr[i]? = some q ∧ i < qr.length ∧ Nm C H x q.1 q.2 ∧ Bd q.1 q.2) ∨ ∃ t, Od H x t ∧ Rz CB "value" x H E := by
  have hl := hn.length
  rcases Nat.lt_or_ge i yr.length with h | h
  · rw [List.getElem?_append_left h] at hx
    obtain ⟨q, h1, h2, h3⟩ := hn.get hx
    exact .inl ⟨q, h1, by omega, h2, h3⟩
  · have e : i = yr.length := by omega
    subst e
    rw [List.getElem?_append_right (Nat.le_refl _), Nat.sub_self] at hx
    rcases hc with ⟨rfl, _⟩ | ⟨z, t, rest', rfl, h1, h2⟩
    · cases hx
    · cases hx; exact .inr ⟨t, h1, h2⟩
theorem gr_end {yr rest : List V} {qr : List (Int × Int)} {A : Prop} (hn : Nms C H yr qr) (hi : (yr ++ rest).length ≤ qr.length)
    (hc : (rest = [] ∧ A) ∨ ∃ z t rest', rest = z :: rest' ∧ Od H z t ∧ Rz CB "value" z H E) : rest = [] ∧ A ∧ (yr ++ rest).length = qr.length := by
  have hl := hn.length
  rcases hc with ⟨rfl, h⟩ | ⟨z, t, rest', rfl, _, _⟩
  · exact ⟨rfl, h, by simp [hl]⟩
  · simp at hi; omega
variable {g : TG} {tb : TS} {D : Ends} {σ : L2.St} {tl : TE}
def ForL (K : PySem.W.Frag) (a : Addr) (g : TG) (tb : TS) (D : Ends) (σ : L2.St) (H : Hp) : Prop := ∃ W : Nat → Nat → L2.St → Hp → Prop, (∃ m, W 0 m σ H) ∧ ∀ (i m : Nat) (σ : L2.St) (H : Hp), W i m σ H → (Itl K a).stop i H ∧ D.nx σ H ∨ (Itl K a).go i H ∧
  ∃ N, (∀ (σ' : L2.St) (H' : Hp), N σ' H' → ∃ m', m' < m ∧ W (i + 1) m' σ' H') ∧ ∀ (x : V) (H' : Hp), (Itl K a).yld i H x H' → g x σ H' fun σ2 H2 => tb { nx := N, rt := D.rt, bk := D.nx, ct := N } σ2 H2
def ForT (K : PySem.W.Frag) (a : Addr) (g : TG) (tb : TS) (D : Ends) (σ : L2.St) (H : Hp) : Prop := ∃ W : Nat → Nat → L2.St → Hp → Prop, (∃ m, W 0 m σ H) ∧ ∀ (i m : Nat) (σ : L2.St) (H : Hp), W i m σ H → (Itt K a).stop i H ∧ D.nx σ H ∨ (Itt K a).go i H ∧
  ∃ N, (∀ (σ' : L2.St) (H' : Hp), N σ' H' → ∃ m', m' < m ∧ W (i + 1) m' σ' H') ∧ ∀ (x : V) (H' : Hp), (Itt K a).yld i H x H' → g x σ H' fun σ2 H2 => tb { nx := N, rt := D.rt, bk := D.nx, ct := N } σ2 H2
theorem s_forL (h : tl σ H fun x H1 => ∃ a, x = .ref a ∧ (∃ xs, SqL K H1 a xs) ∧ ForL K a g tb D σ H1) : tFor (iList K tl) g tb D σ H := h
theorem s_forT (h : tl σ H fun x H1 => ∃ a, x = .ref a ∧ (∃ xs, SqT K H1 a xs) ∧ ForT K a g tb D σ H1) : tFor (iTup K tl) g tb D σ H := h
theorem s_fL {a : Addr} {xs : List V} (ha : H a = some (.lst xs)) (Pv : Nat → L2.St → Hp → Prop) (h0 : Pv 0 σ H) (hs : ∀ i σ H, Pv i σ H → H a = some (.lst xs))
    (hb : ∀ i x σ H, xs[i]? = some x → Pv i σ H → g x σ H fun σ2 H2 => tb { nx := Pv (i + 1), rt := D.rt, bk := D.nx, ct := Pv (i + 1) } σ2 H2) (he : ∀ σ H, Pv xs.length σ H → D.nx σ H) :
    ∃ a', V.ref a = .ref a' ∧ (∃ xs, SqL K H a' xs) ∧ ForL K a' g tb D σ H := ⟨a, rfl, ⟨xs, .inl (.inl ha)⟩, for_list Pv h0 (fun i σ H _ h => .inl (.inl (hs i σ H h))) hb he⟩
theorem s_fT {a : Addr} {xs : List V} (ha : H a = some (.tup xs)) (Pv : Nat → L2.St → Hp → Prop) (h0 : Pv 0 σ H) (hs : ∀ i σ H, Pv i σ H → H a = some (.tup xs))
    (hb : ∀ i x σ H, xs[i]? = some x → Pv i σ H → g x σ H fun σ2 H2 => tb { nx := Pv (i + 1), rt := D.rt, bk := D.nx, ct := Pv (i + 1) } σ2 H2) (he : ∀ σ H, Pv xs.length σ H → D.nx σ H) :
    ∃ a', V.ref a = .ref a' ∧ (∃ xs, SqT K H a' xs) ∧ ForT K a' g tb D σ H := ⟨a, rfl, ⟨xs, .inl (.inl ha)⟩, for_tup Pv h0 (fun i σ H _ h => .inl (.inl (hs i σ H h))) hb he⟩
theorem s_gNm {i : Nat} {v : V} {R : L2.St → Hp → Prop} (h : R (σ.set i (some v)) H) : gName i v σ H R := h
end
end L3
end
section
namespace L3
open PySem PySem.Spec PyProof.Rows L2 LamX
/-- a class with a default of __init__, made by the names of its parameters, in the other order -/
theorem kbn21 {K : PySem.W.Frag} {x qual : Str} {pa : Arguments} {bd : List Stmt} {sc : Scope} {dvs : List V} {kws : List (Str × V)} {f : Addr} {fd : FuncData} {ps : List Str} (F : FunD K x qual pa bd sc dvs kws f fd) (ks : List Str) (g : ∀ {α : Type}, List α → List α → List α)
    (hd : dvs ≠ []) (hrel : ∀ {vs zs : List V} {us ws : List Value}, Vals vs us → Vals zs ws → Vals (g vs zs) (g us ws))
    (h : ∀ (T : Addr) (kV doc pm : Value) (an : Option Addr) (cdv ct : Value) (us ws its : List Value), us.length = 1 → ws.length = ks.length → its.length = dvs.length →
      ∃ k, bindArgs (PySem.W.fnOf x qual pa bd sc (.ref T) kV doc pm an cdv ct) ⟨us, ks.zip ws⟩ = seqItems? (.ref T) >>= k ∧ k (some its.toArray) = pure (ps.zip (g us ws))) :
    KBn K fd ps 1 ks (fun us ws => g us ws) (fun vs zs => g vs zs) := by
  obtain ⟨oc, od, dV, kV, doc, pm, an, cd, ct, sl, rfl, lk, hcd, dfl, _⟩ := F.ex
  rcases dfl with ⟨e, _⟩ | ⟨_, T, o, its, n, rfl, lT, oT, vT⟩
  · exact absurd e hd
  refine ⟨fun s us ws hK h1 h2 => ?_, fun a b => hrel a b⟩
  obtain ⟨k, e1, e2⟩ := h T kV doc pm an cd ct us ws its h1 h2 vT.length.symm
  intro M A E Q q
  rw [e1]
  refine wpAny_bind (wpAny_seqItems (hK _ _ lT) oT ?_)
  show wpAny M A (k (some its.toArray)) Q E s
  rw [e2]
  exact wpAny_pure q
structure McK (P : Program) (w : World) (K : PySem.W.Frag) (mg : Str → Option Value) (base : Heap) (CX : CXT) (k : Nat) (x : Str) (C : Addr) (ps : List Str) (sp : Sp) (ks : List Str) (gV : List V → List V → List V) : Prop where
  ex : ∃ (f : Addr) (fd : FuncData) (g : List Value → List Value → List Value), FnOk P w K mg base CX k f fd ps sp ∧ mg x = some (.ref C) ∧ Mk K C f ∧ KBn K fd ps 1 ks g gV
def swap21 {α : Type} : List α → List α → List α
  | [s], [u, o] => [s, o, u]
  | _, _ => []
theorem swap21_rel {vs zs : List V} {us ws : List Value} (h1 : Vals vs us) (h2 : Vals zs ws) : Vals (swap21 vs zs) (swap21 us ws) := by
  cases h1 with
  | nil => exact .nil
  | cons a as =>
    cases as with
    | cons b bs => exact .nil
    | nil =>
      cases h2 with
      | nil => exact .nil
      | cons b bs =>
        cases bs with
        | nil => exact .nil
        | cons c cs =>
          cases cs with
          | nil => exact .cons a (.cons c (.cons b .nil))
          | cons d ds => exact .nil
section
variable {X : Cx} {CX : CXT} {k : Nat} {ps ks : List Str} {sp : Sp} {E : XK} {x : Str} {p pos : Pos} {t : TA} {kws : List Keyword}
theorem pe_mkk {j : Nat} {C : Addr} {gV : List V → List V → List V} (c : McK X.prog X.w X.K X.mg X.base CX k x C ps sp ks gV) (hr : Room j X.A) (hx : Passes CX X E) (ha : PK X kws t) (hk : k + 1 ≤ j := by decide) (gl : Gl X x := by rfl)
    (hall : ((backToKw pos (keywordEach kws X.env)).all fun x => x.1.isSome) = true := by rfl) (hks : List.filterMap (fun x => x.1) (backToKw pos (keywordEach kws X.env)) = ks := by rfl)
    (hdb : (x == ("__debug__" : Str)) = false := by decide) (hpl : ((backTo pos (starEach [] X.env)).any (fun x => x.1) || (backToKw pos (keywordEach kws X.env)).any fun x => x.1.isNone) = false := by rfl) :
    PE X (.Call (.Name x p) [] kws pos) (tMakeK C 0 ks.length sp gV E tNil t) := by
  obtain ⟨f, fd, g, F, m, M, b⟩ := c.ex
  exact pe_makeK0 M F (hr.mono hk) gl m b hx ha hall hks hdb hpl
end
section
variable {K : PySem.W.Frag} {σ : L2.St} {H H' : Hp} {Q : VK} {E : XK} {C : Addr} {sp : Sp} {ta : TE} {t tk : TA} {n m : Nat} {gV : List V → List V → List V}
theorem s_st (h : ta σ H fun x H1 => x = .ref C ∧ t σ H1 fun vs H2 => sp vs H2 Q E) : tSt C sp E ta t σ H Q := h
theorem s_makeK (h : t σ H fun vs H1 => tk σ H1 fun zs H2 => vs.length = n ∧ zs.length = m ∧ ∀ (x dx : Addr), H2 x = none → H2 dx = none → dx ≠ x →
    sp (gV (V.ref x :: vs) zs) (upd (upd H2 dx (HO.own x)) x (HO.ins C dx [])) (fun v H3 => v = V.non ∧ ap Q (V.ref x) H3) E) : tMakeK C n m sp gV E t tk σ H Q := h
/-- a comprehension over a range whose turns draw; what is told of a value may look at the heap -/
theorem lcPenH {te : TE} {a : Addr} {n N q j : Nat} {vs : List Nat} (p : Hp → V → Prop) (hp : Pen H a n) (hN : N < sizeLine) (hw : ∀ x, wipe ((wipe σ vs).set j (some x)) vs = wipe σ vs)
    (pk : ∀ {H1 H2 : Hp} {y : V} {m : Nat}, Pen H1 a m → p H1 y → (∀ b o, b ≠ a → H1 b = some o → H2 b = some o) → p H2 y)
    (pu' : ∀ {H1 : Hp} {y : V} {l : Addr} {xs zs : List V}, p H1 y → H1 l = some (.lst xs) → p (upd H1 l (.lst zs)) y)
    (he : ∀ (i : Nat) (H' : Hp) (m : Nat) (R : VK), i < N → (∀ b o, b ≠ a → H b = some o → H' b = some o) → Pen H' a m → m ≤ n + q * i →
      (∀ y H2 m2, (∀ b o, b ≠ a → H' b = some o → H2 b = some o) → Pen H2 a m2 → m2 ≤ m + q → p H2 y → R y H2) → te ((wipe σ vs).set j (some (.int (0 + i)))) H' R)
    (k : ∀ D H2 m ys, H D = none → (∀ b o, b ≠ a → H b = some o → H2 b = some o) → Pen H2 a m → m ≤ n + q * N → ys.length = N → (∀ y ∈ ys, p H2 y) → H2 D = some (.lst ys) → Q (.ref D) H2) :
    LC (Itr 0 N) (gName j) tYes te vs σ H Q := by
  intro Dl hD
  have hDa : Dl ≠ a := by
    rintro rfl
    obtain ⟨c, ns, z, _⟩ := hp
    rw [hD] at z; cases z
  have pu : ∀ {H : Hp} {m : Nat} {o : HO}, Pen H a m → H Dl = none ∨ (∃ xs, H Dl = some (.lst xs)) → Pen (upd H Dl o) a m := by
    rintro H m o ⟨c, ns, z1, z2, z3⟩ hd
    refine ⟨c, ns, by rw [upd_ne (Ne.symm hDa)]; exact z1, ?_, z3⟩
    rw [upd_ne ?_]; exact z2
    rintro rfl
    rcases hd with hd | ⟨xs, hd⟩ <;> rw [hd] at z2 <;> (try unfold ScO at z2) <;> cases z2
  refine lc_it walk_range (fun i H' => (∃ m, Pen H' a m ∧ m ≤ n + q * i) ∧ (∀ b o, b ≠ a → H b = some o → H' b = some o) ∧ ∃ ys, H' Dl = some (.lst ys) ∧ ys.length = i ∧ ∀ y ∈ ys, p H' y)
    ⟨⟨n, pu hp (.inl hD), by omega⟩, fun b o _ hb => by rw [upd_ne (ne_of_none hb hD)]; exact hb, [], upd_same, rfl, by simp⟩ (fun _ _ _ _ => trivial) ?_ ?_
  · rintro i x H1 H2 hi ⟨⟨m, p1, p2⟩, k1, ys, l1, l2, l3⟩ ⟨rfl, rfl⟩
    refine ⟨hw _, ?_⟩
    refine he i H2 m _ hi k1 p1 p2 fun y H3 m3 k3 p3 hm hy => ?_
    have l4 := k3 _ _ hDa l1
    refine ⟨ys, l4, by omega, ⟨m3, pu p3 (.inr ⟨_, l4⟩), by rw [Nat.mul_succ]; omega⟩, fun b o hb ho => ?_, ys ++ [y], upd_same, by simp [l2], ?_⟩
    · rw [upd_ne (ne_of_none ho hD)]; exact k3 _ _ hb (k1 _ _ hb ho)
    · intro z hz
      rcases List.mem_append.mp hz with hz | hz
      · exact pu' (pk p1 (l3 z hz) k3) l4
      · rw [List.mem_singleton.mp hz]; exact pu' hy l4
  · rintro H1 ⟨⟨m, p1, p2⟩, k1, ys, l1, l2, l3⟩
    exact k _ _ _ _ hD k1 p1 p2 l2 l3 l1
end
end L3
end
section
namespace L3
open PySem PySem.Spec PyProof.Rows L2 LamX
section
variable {K : PySem.W.Frag} {σ : L2.St} {H H' : Hp} {Q : VK} {C CB : Addr}
/-! ## values that are heard, with their texts -/
inductive Vl (H : Hp) : V → Str → Prop
  | od {v : V} {t : Str} : Od H v t → Vl H v t
  | int (i : Int) : i.natAbs.log2 < 1920 → (PyData.int i).shown.length ≤ 1001 → Vl H (.int i) (PyData.int i).shown
  | d12 {p : Addr} : H p = some (.dK [(.inl 1, .int 2)]) → Vl H (.ref p) (PyData.dict [(.int 1, .int 2)]).shown
theorem Vl.exN {v : V} {t : Str} (h : Vl H v t) (e : ExtN H H') : Vl H' v t := by
  cases h with
  | od h => exact .od (h.exN e)
  | int i h2 h3 => exact .int i h2 h3
  | d12 h => exact .d12 (e _ _ h fun _ z => nomatch z)
theorem Vl.ex {v : V} {t : Str} (h : Vl H v t) (e : Ex H H') : Vl H' v t := h.exN e.n
theorem Vl.up {v : V} {t : Str} {l : Addr} {o : HO} (h : Vl H v t) (hn : v ≠ .ref l) : Vl (upd H l o) v t := by
  cases h with
  | od h => exact .od (h.up hn)
  | int i h2 h3 => exact .int i h2 h3
  | d12 h => exact .d12 (by rw [upd_ne (fun z => hn (by rw [z]))]; exact h)
theorem Vl.keep {p : Addr} {v : V} {t : Str} (h : Vl H v t) (hn : v ≠ .ref p) (k : ∀ b o, b ≠ p → H b = some o → H' b = some o) : Vl H' v t := by
  cases h with
  | od h => exact .od (h.keep hn k)
  | int i h2 h3 => exact .int i h2 h3
  | d12 h => exact .d12 (k _ _ (fun z => hn (by rw [z])) h)
theorem Vl.repr {v : V} {t : Str} (h : Vl H v t) (q : Q (.str t) H) : rReprU K [v] H Q := by
  cases h with
  | od h => exact h.repr q
  | int i h2 h3 => exact .inl ⟨_, .int i, rfl, .int i, decide_eq_true h2, Nat.zero_le _, Nat.le_trans h3 (by decide +kernel), q⟩
  | d12 h => exact .inr ⟨_, rfl, .inr ⟨h, q⟩⟩
/-- what lies nowhere yet is none of these -/
theorem Vl.new {v : V} {t : Str} {l : Addr} (h : Vl H v t) (hl : H l = none) : v ≠ .ref l := fun z => by
  subst z
  cases h with
  | od h =>
    cases h with
    | tup q _ _ => rw [hl] at q; cases q
    | lst q _ _ => rw [hl] at q; cases q
    | dic q => rw [hl] at q; cases q
  | d12 q => rw [hl] at q; cases q
theorem s_hearV {Tt : List (Addr × Str)} {t : XK → TE} {v : V} {tx : Str} (ht : Tabs Tt H) (hod : Vl H v tx) (ask : ∀ (E : XK) (H1 : Hp) (Q' : VK), ExtN H H1 → Rz CB "value" v H1 E → t E σ H1 Q')
    (k : ∀ p H2, ExtN H H2 → Tabs Tt H2 → H2 p = some (.tup [.str "ratio", .str tx]) → Q (.ref p) H2) : tLam Tt (TTh K CB) t σ H Q := by
  refine ⟨ht, fun H1 e1 t1 => ?_⟩
  show t _ σ H1 _
  exact ask _ H1 _ e1 fun d H' hd e' hx => ⟨d, v, tx, rfl, rfl, hx, fun H2 R e2 r => ((hod.exN e1).exN (e'.trans e2).n).repr r, fun p H2 hp e2 h2 => k p H2 (e1.trans (e'.trans e2).n) (t1.ext (e'.trans e2)) h2⟩
/-- the heard pairs -/
inductive Hrd (H : Hp) : List V → List Str → Prop
  | nil : Hrd H [] []
  | cons {r : Addr} {vs : List V} {t : Str} {ts : List Str} : H r = some (.tup [.str "ratio", .str t]) → Hrd H vs ts → Hrd H (.ref r :: vs) (t :: ts)
theorem Hrd.exN {vs : List V} {ts : List Str} (h : Hrd H vs ts) (e : ExtN H H') : Hrd H' vs ts := by
  induction h with
  | nil => exact .nil
  | cons a _ b => exact .cons (e _ _ a fun _ z => nomatch z) b
theorem Hrd.up {vs : List V} {ts : List Str} {l : Addr} {xs zs : List V} (h : Hrd H vs ts) (hl : H l = some (.lst xs)) : Hrd (upd H l (.lst zs)) vs ts := by
  induction h with
  | nil => exact .nil
  | cons a _ b => exact .cons (by rw [upd_ne (ne_of a hl (by intro z; cases z))]; exact a) b
theorem Hrd.snoc {vs : List V} {ts : List Str} {r : Addr} {t : Str} (h : Hrd H vs ts) (a : H r = some (.tup [.str "ratio", .str t])) : Hrd H (vs ++ [.ref r]) (ts ++ [t]) := by
  induction h with
  | nil => exact .cons a .nil
  | cons b _ c => exact .cons b c
theorem Hrd.length {vs : List V} {ts : List Str} (h : Hrd H vs ts) : vs.length = ts.length := by
  induction h with
  | nil => rfl
  | cons _ _ b => simp [b]
def hrD (ts : List Str) : List PyData := ts.map fun t => .tuple [.str "ratio", .str t]
theorem Hrd.dp {vs : List V} {ts : List Str} (h : Hrd H vs ts) : DpAll K H vs (hrD ts) := by
  induction h with
  | nil => exact .nil
  | cons a _ b => exact .cons (.tup (.inl (.inl a)) (.cons (.str _) (.cons (.str _) .nil))) b
theorem hrSh : ∀ {ts : List Str}, (∀ t ∈ ts, PyData.strOk t = true) → SeqAt.shaped (.list (hrD ts)) = true := by
  intro ts h
  have h1 : ∀ ts : List Str, (∀ t ∈ ts, PyData.strOk t = true) → PyData.canLayAll0 (hrD ts) = true := by
    intro ts h
    induction ts with
    | nil => rfl
    | cons t r ih =>
      have ht := h t List.mem_cons_self
      show PyData.canLayAll0 (.tuple [.str "ratio", .str t] :: hrD r) = true
      unfold PyData.canLayAll0; rw [ih fun x hx => h x (List.mem_cons_of_mem _ hx), Bool.and_true]; simp only [PyData.canLay0, PyData.canLayAll0, ht]; decide +kernel
  have h2 : ∀ ts : List Str, PyData.depthAll (hrD ts) ≤ 1 := by
    intro ts
    induction ts with
    | nil => exact Nat.zero_le _
    | cons t r ih =>
      show PyData.depthAll (.tuple [.str "ratio", .str t] :: hrD r) ≤ 1
      unfold PyData.depthAll; exact Nat.max_le.mpr ⟨Nat.le_refl 1, ih⟩
  have h3 := h2 ts
  unfold SeqAt.shaped PyData.canLay0 PyData.depth
  rw [h1 ts h, Bool.true_and]
  exact decide_eq_true (by omega)
theorem hrEq {ts : List Str} (h : ∀ t ∈ ts, PyData.strOk t = true) : PyData.eqv (.list (hrD ts)) (.list (hrD ts)) = true := SeqAt.eqv_refl _ (SeqAt.canLay_of_shaped (hrSh h))
/-- so far heard: the list l; what is known of some values; the pen -/
structure Sy (Tt : List (Addr × Str)) (l p : Addr) (n : Nat) (Pv : Hp → Prop) (H : Hp) (xs : List V) (ts : List Str) : Prop where
  lst : H l = some (.lst xs)
  els : Hrd H xs ts
  pv : Pv H
  wo : Wo Tt H p n
  few : xs.length ≤ 1000
structure Clo (l : Addr) (Pv : Hp → Prop) : Prop where
  ext : ∀ H H', Pv H → ExtN H H' → Pv H'
  upd : ∀ H zs, Pv H → Pv (upd H l (.lst zs))
theorem Sy.exN {Tt : List (Addr × Str)} {l p : Addr} {n : Nat} {Pv : Hp → Prop} {xs : List V} {ts : List Str} (S : Sy Tt l p n Pv H xs ts) (c : Clo l Pv) (e : ExtN H H') (t : Tabs Tt H') : Sy Tt l p n Pv H' xs ts :=
  ⟨e _ _ S.lst (fun _ z => nomatch z), S.els.exN e, c.ext _ _ S.pv e, S.wo.exN e t, S.few⟩
theorem Sy.app {Tt : List (Addr × Str)} {l p : Addr} {n : Nat} {Pv : Hp → Prop} {xs : List V} {ts : List Str} {r : Addr} {tx : Str} (S : Sy Tt l p n Pv H xs ts) (c : Clo l Pv) (h : H r = some (.tup [.str "ratio", .str tx])) (hf : xs.length < 1000) :
    Sy Tt l p n Pv (upd H l (.lst (xs ++ [.ref r]))) (xs ++ [.ref r]) (ts ++ [tx]) :=
  ⟨upd_same, (S.els.up S.lst).snoc (by rw [upd_ne (ne_of h S.lst (by intro z; cases z))]; exact h), c.upd _ _ S.pv, S.wo.up S.lst, by simp; omega⟩
/-- l.append(heard(lambda: ..)) -/
theorem s_askV {Tt : List (Addr × Str)} {l p : Addr} {n il : Nat} {Pv : Hp → Prop} {v : V} {tx : Str} {xs : List V} {ts : List Str} {t : XK → TE} {D : Ends} (S : Sy Tt l p n Pv H xs ts) (c : Clo l Pv) (hv : ∀ H, Pv H → Vl H v tx) (hf : xs.length < 1000) (hl : σ[il]? = some (some (.ref l)))
    (ask : ∀ (E : XK) (H1 : Hp) (Q' : VK), Pv H1 → Rz CB "value" v H1 E → t E σ H1 Q')
    (k : ∀ H2 r, Sy Tt l p n Pv H2 (xs ++ [.ref r]) (ts ++ [tx]) → D.nx σ H2) : tDrop (tBM K "list" rAppend (tVar il) (tCons (tLam Tt (TTh K CB) t) tNil)) D σ H := by
  refine ⟨.ref l, hl, .inl ⟨rfl, _, .inl (.inl S.lst)⟩, ?_⟩
  refine s_hearV S.wo.tabs (hv _ S.pv) (fun E H1 Q' e1 rz => ask E H1 Q' (c.ext _ _ S.pv e1) rz) fun r H2 e2 t2 h2 => ?_
  have S2 := S.exN c e2 t2
  exact ⟨l, xs, .ref r, rfl, rfl, S2.lst, Nat.lt_of_lt_of_le hf (by decide +kernel), k _ r (S2.app c h2 hf)⟩
/-- no list or tuple of numbers -/
def Lt (H : Hp) (v : V) : Prop := NoLT H v ∨ ∃ a, v = .ref a ∧ (H a = some (.lst []) ∨ H a = some (.tup []))
theorem Lt.map {v : V} {G : Hp} (h : Lt H v) (f : ∀ a o, v = .ref a → H a = some o → (∀ ps, o ≠ .tbl ps) → G a = some o) : Lt G v := by
  rcases h with h | ⟨a, rfl, h⟩
  · cases h with
    | non => exact .inl .non
    | bl b => exact .inl (.bl b)
    | int i => exact .inl (.int i)
    | str z => exact .inl (.str z)
    | dic h => exact .inl (.dic (f _ _ rfl h fun _ z => nomatch z))
  · exact .inr ⟨a, rfl, h.imp (fun h => f _ _ rfl h fun _ z => nomatch z) (fun h => f _ _ rfl h fun _ z => nomatch z)⟩
theorem Lt.exN {v : V} (h : Lt H v) (e : ExtN H H') : Lt H' v := h.map fun a o _ h n => e a o h n
theorem Lt.up {v : V} {l : Addr} {o : HO} (h : Lt H v) (hn : v ≠ .ref l) : Lt (upd H l o) v := h.map fun a o e h _ => by rw [upd_ne (fun z => hn (by rw [e, z]))]; exact h
theorem Lt.keep {p : Addr} {v : V} (h : Lt H v) (hn : v ≠ .ref p) (k : ∀ b o, b ≠ p → H b = some o → H' b = some o) : Lt H' v := h.map fun a o e h _ => k a o (fun z => hn (by rw [e, z])) h
end
end L3
end
section
namespace L3
open PySem PySem.Spec PyProof.Rows L2 LamX ClX
/-! ## texts of great numbers, own texts -/
def rStrB (K : PySem.W.Frag) : List V → Hp → VK → Prop := fun xs H Q => ∃ i : Int, xs = [.int i] ∧ PySem.W.nsIn K cStatics "sys.int_max_str_digits" = some none ∧ i.natAbs < 10 ^ 4300 ∧ Q (.str (strOf i)) H
theorem callStrB {X : Cx} (hc : X.calm = true) : CallR X (.type "str") (rStrB X.K) := by
  intro pins s σ H xs us Q I r h
  obtain ⟨i, rfl, hk, hi, q⟩ := h
  obtain ⟨u, rfl, t, rfl⟩ := vals1 r
  exact str_of_int_or (I.ok.hd hc) (digits_free I.kIn I.nolimit hk) (fun _ => ⟨.str _, H, I.tok _, ⟨_, rfl⟩, q⟩) (fun h => absurd hi (Nat.not_lt_of_le h))
def rStrOwn (C : Addr) (sp : Sp) (E : XK) : List V → Hp → VK → Prop := fun xs H Q => ∃ a dx fs, xs = [.ref a] ∧ H a = some (.ins C dx fs) ∧ sp [.ref a] H (fun z H' => ∃ y, z = .str y ∧ Q (.str y) H') E
theorem callStrOwn {X : Cx} {C : Addr} {k j : Nat} {sp : Sp} {E : XK} (B : Me X.prog X.w X.K X.mg X.base C "__str__" k ["self"] sp) (hr : Room (j + 2) X.A) (hx : Passes (L2.CX X.prog X.w) X E) (hk : k ≤ j := by decide) : CallR X (.type "str") (rStrOwn C sp E) := by
  obtain ⟨f, fd, h1, h2, G, b⟩ := B.ex
  intro pins s σ H xs us Q I r h
  obtain ⟨a, dx, fs, rfl, ea, q⟩ := h
  obtain ⟨u, rfl, rx⟩ := vals1 r
  cases (show u = Value.ref a from rx)
  obtain ⟨od, J⟩ := ins_inst I.hok ea
  refine PySem.W.kso_call (by have := hr.units; show X.A.units + 1 + 1 < cLine; omega) I.kIn J h1 h2 ?_
  refine wpAny_call (codeAny_mono (G.run X.A.in1.in1 X.stack s H ⟨[.ref a], []⟩ [.ref a] [.ref a] (fun z H' => ∃ y, z = .str y ∧ Q (.str y) H') E (hr.in1.in1.mono hk) I.env0.in1.in1 (by have := b s [.ref a] I.kIn rfl; rw [List.append_nil] at this; exact this) (.cons (show RelV (.ref a) (.ref a) from rfl) .nil) q) fun r s' z => ?_)
  match r, z with
  | .error e, z => exact hx pins σ H s e s' I z
  | .ok (.ret u), z =>
    obtain ⟨v', H', I', r', y, rfl, q'⟩ := I.after z
    obtain ⟨t, rfl⟩ := (show ∃ t, u = Value.str y t from r')
    exact ⟨.str y, H', I', ⟨t, rfl⟩, q'⟩
def rStrU (K : PySem.W.Frag) (C : Addr) (sp : Sp) (E : XK) : List V → Hp → VK → Prop := fun xs H Q => rStrB K xs H Q ∨ rStrOwn C sp E xs H Q
theorem callStrU {X : Cx} {K : PySem.W.Frag} {C : Addr} {k j : Nat} {sp : Sp} {E : XK} (hK : X.K = K) (hc : X.calm = true) (B : Me X.prog X.w X.K X.mg X.base C "__str__" k ["self"] sp) (hr : Room (j + 2) X.A) (hx : Passes (L2.CX X.prog X.w) X E) (hk : k ≤ j := by decide) : CallR X (.type "str") (rStrU K C sp E) := by
  subst hK
  exact CallR.or (callStrB hc) (callStrOwn B hr hx hk)
theorem KX.strB {X : Cx} {K : PySem.W.Frag} (hK : X.K = K) (hc : X.calm = true) : CallR X (.type "str") (rStrB K) := by subst hK; exact callStrB hc
theorem s_strB {K : PySem.W.Frag} {i : Int} {H : Hp} {Q : VK} (hk : PySem.W.nsIn K cStatics "sys.int_max_str_digits" = some none) (hi : i.natAbs < 10 ^ 4300) (h : Q (.str (strOf i)) H) : rStrB K [.int i] H Q := ⟨i, rfl, hk, hi, h⟩
theorem s_strU {K : PySem.W.Frag} {C : Addr} {sp : Sp} {E : XK} {i : Int} {H : Hp} {Q : VK} (hk : PySem.W.nsIn K cStatics "sys.int_max_str_digits" = some none) (hi : i.natAbs < 10 ^ 4300) (h : Q (.str (strOf i)) H) : rStrU K C sp E [.int i] H Q := .inl ⟨i, rfl, hk, hi, h⟩
/-! ## class methods called on their class -/
structure CmM (P : Program) (w : World) (K : PySem.W.Frag) (mg : Str → Option Value) (base : Heap) (CX : CXT) (k : Nat) (C : Addr) (m : Str) (c : Str) (ps : List Str) (sp : Sp) : Prop where
  ex : ∃ (mc : Value) (p g : Addr) (gd : FuncData), CRead K C mc ∧ CMet K C mc m p g ∧ FnOk P w K mg base CX k g gd (c :: ps) sp ∧ L2.Binds K gd (c :: ps) [] ∧
    ∀ (s : Shared) (ws : List Value), K.In s.heap → ws.length = ps.length → BindsTo s gd ⟨[.ref C], ps.zip ws⟩ ((c :: ps).zip (.ref C :: ws))
section
variable {X : Cx} {CX : CXT} {k j : Nat} {C : Addr} {sp : Sp} {E : XK} {o e : Expr} {es : List Expr} {m cn : Str} {ps : List Str} {pos apos : Pos} {ta : TE} {t : TA} {pl : Sem Bool}
theorem pe_cm (c : CmM X.prog X.w X.K X.mg X.base CX k C m cn ps sp) (hr : Room j X.A) (hx : Passes CX X E) (he : PE X o ta) (ha : PA X (e :: es) t) (hk : k ≤ j := by decide)
    (hst : starEach (e :: es) X.env = (false, eval e X.env) :: starEach es X.env := by rfl) (hpl : (backTo pos (starEach es X.env)).any (·.1) = false := by rfl)
    (ht : eval (.Call (.Attribute o m apos) (e :: es) [] pos) X.env = (do
      let ov ← eval o X.env
      standAt apos.atName
      let (f, first) ← holding [ov] (getMethod ov m pl)
      callWith pos f first (backTo pos (starEach (e :: es) X.env)) (backToKw pos (keywordEach [] X.env))) := by rfl) :
    PE X (.Call (.Attribute o m apos) (e :: es) [] pos) (tCMeth C sp E ta t) := by
  obtain ⟨mc, p, g, gd, r, cm, F, b, _⟩ := c.ex
  exact pe_cmeth he r cm ((F.raw b .nil).imp fun vs H Q E h => by rw [List.append_nil]; exact h) (hr.mono hk) hx ha hst hpl ht
theorem pe_cmk {kws : List Keyword} (c : CmM X.prog X.w X.K X.mg X.base CX k C m cn ps sp) (hr : Room j X.A) (hx : Passes CX X E) (he : PE X o ta) (ha : PK X kws t) (hk : k ≤ j := by decide)
    (hall : (backToKw pos (keywordEach kws X.env)).all (·.1.isSome) = true := by rfl) (hks : (backToKw pos (keywordEach kws X.env)).filterMap (·.1) = ps := by rfl) (hpl : ((backTo pos (starEach [] X.env)).any (·.1) || (backToKw pos (keywordEach kws X.env)).any (·.1.isNone)) = false := by rfl)
    (ht : eval (.Call (.Attribute o m apos) [] kws pos) X.env = (do
      let ov ← eval o X.env
      standAt apos.atName
      let (f, first) ← holding [ov] (getMethod ov m pl)
      callWith pos f first (backTo pos (starEach [] X.env)) (backToKw pos (keywordEach kws X.env))) := by rfl) :
    PE X (.Call (.Attribute o m apos) [] kws pos) (tCMeth C sp E ta t) := by
  obtain ⟨mc, p, g, gd, r, cm, F, _, b⟩ := c.ex
  refine ⟨fun pins s σ H Q I h => ?_⟩
  refine PySem.W.methodCall_KW (pl := pl) (thn (he.run pins s σ H _ I h) fun u s1 hh => ?_) ht
  obtain ⟨x, H1, I1, rx, ex, q⟩ := hh
  subst ex
  obtain rfl : u = Value.ref C := rx
  refine getmethcm_ok I1 r cm fun s2 I2 => ?_
  refine PySem.W.callWith_of (P := PySem.W.MethP X.K s1.heap.objs.size g (.ref C)) hpl (PySem.W.keeps_M cm.fi) (evalArgs_kw2_nil hall (thn (ha.run pos _ s2 σ H1 _ I2 q) fun us s3 hh => ?_))
  obtain ⟨vs, H2, I3, rv, q2⟩ := hh
  rw [hks]
  refine ⟨⟨pin_at I3, I3.kIn⟩, ?_⟩
  have hl : us.length = ps.length := by
    have z := F.len _ _ _ _ q2
    have z2 := rv.length
    simp only [List.length_cons] at z
    omega
  have z : wpAny (model X.prog X.w) X.A (call (.ref s1.heap.objs.size) [] (ps.zip us)) (EP X ((s1.heap.objs.size, PySem.W.methodObj (.ref g) (.ref C)) :: pins) σ Q) X.xe s3 := by
    refine wpAny_call (PySem.W.method_call (pin_at I3) (codeAny_mono (F.run X.A X.stack s3 H2 ⟨[.ref C], ps.zip us⟩ (.ref C :: us) (.ref C :: vs) Q E (hr.mono hk) I3.env0 (b s3 us I3.kIn hl) (.cons rfl rv) q2) fun y s' z => ?_))
    match y, z with
    | .error e, z => exact hx _ σ H2 s3 e s' I3 z
    | .ok (.ret u), z => exact I3.after z
  exact thn z fun _ _ y => unpinE y
/-- a class in a slot, made by its name -/
def tMakeL (i : Nat) (C : Addr) (sp : Sp) (dvs : List V) (E : XK) (t : TA) : TE := fun σ H Q => σ[i]? = some (some (.ref C)) ∧ tMake C sp dvs E t σ H Q
theorem pe_mkL {i : Nat} {y x : Str} {p : Pos} {dvs : List V} (c : McO X.prog X.w X.K X.mg X.base CX k y C ps sp dvs) (hr : Room j X.A) (hN : X.N[i]? = some x) (hv : Vis X.env.scope x) (hx : Passes CX X E) (ha : PA X (e :: es) t) (hk : k + 1 ≤ j := by decide)
    (hdb : (x == ("__debug__" : Str)) = false := by decide) (hcd : (x == ("__classdict__" : Str)) = false := by decide)
    (he : starEach (e :: es) X.env = (false, eval e X.env) :: starEach es X.env := by rfl) (hpl : (backTo pos (starEach es X.env)).any (·.1) = false := by rfl) : PE X (.Call (.Name x p) (e :: es) [] pos) (tMakeL i C sp dvs E t) := by
  obtain ⟨f, fd, ds, F, m, M, b, hd⟩ := c.ex
  refine ⟨fun pins s σ H Q I h => ?_⟩
  obtain ⟨hs, ht⟩ := h
  refine wpAny_Call_Name_kw (thn ((pe_var (pos := p) hN hv hdb hcd).run pins s σ H (fun v H1 => v = .ref C ∧ H1 = H) I ⟨.ref C, hs, rfl, rfl⟩) fun u s1 ⟨v, H1, I1, r1, q1⟩ => ?_)
  obtain ⟨rfl, rfl⟩ := q1
  cases r1
  refine PySem.W.callWith_K (h₀ := X.base) I.ok.mod.kin M.kp (thn (ha.run pos pins s1 σ _ _ I1 ht) fun us s2 ⟨vs, H2, I2, r, q⟩ => ⟨I2.kIn, ?_⟩) he hpl
  exact run_make M F (hr.mono hk) b hd hx I2 r q
end
/-! ## an error of the package with two fields, raised -/
structure Er2 (P : Program) (w : World) (K : PySem.W.Frag) (mg : Str → Option Value) (base : Heap) (x : Str) (C : Addr) (g g2 : Str) : Prop where
  oex : OexC K C
  m : mg x = some (.ref C)
  ex : ∃ (f : Addr) (fd : FuncData) (y y2 : Str), PySem.W.findIn K (.ref C) "__init__" = some (some (.ref f)) ∧ PySem.W.typeIn K (.ref f) = some (.type "function") ∧ FnOk P w K mg base CX0 1 f fd ["self", y, y2] (spErr2 C g g2) ∧ L2.Binds K fd ["self", y, y2] []
def Rz2 (C : Addr) (g g2 : Str) (v v2 : V) (H : Hp) (E : XK) : Prop := ∀ d H', H d = none → Ex H H' → H' d = some (.xd [(g2, v2), (g, v)]) → E (.ref C) (some d) H'
theorem Rz2.ex {C : Addr} {g g2 : Str} {v v2 : V} {H H' : Hp} {E : XK} (h : Rz2 C g g2 v v2 H E) (e : Ex H H') : Rz2 C g g2 v v2 H' E := fun d H2 hd e2 hx => h d H2 (e.free hd) (e.trans e2) hx
def rMk2 (C : Addr) (g g2 : Str) (vs : List V) (H1 : Hp) (E : XK) : Prop := vs.length ≤ 1000 ∧ ∀ a, H1 a = none → spErr2 C g g2 (.ref a :: (vs ++ [])) (upd H1 a (exo a C none))
  (fun v H2 => v = .non ∧ ∃ (d : Addr) (fs : List (Str × V)), H2 a = some (exo a C (some d)) ∧ H2 d = some (exd d fs) ∧ H1 d = none ∧ E (.ref C) (some d) (upd (del H2 a) d (.xd fs))) (fun _ _ _ => False)
def tRaise2 (C : Addr) (g g2 : Str) (te te2 : TE) (W : WX) : TS := fun _ σ H => te σ H fun v H1 => te2 σ H1 fun v2 H2 => rMk2 C g g2 [v, v2] H2 (fun cls d H' => W cls d σ H')
theorem ps_raise2 {X : Cx} {W : WX} {x g g2 : Str} {C : Addr} {j : Nat} {e e2 : Expr} {te te2 : TE} {p p1 pos : Pos} (c : Er2 X.prog X.w X.K X.mg X.base x C g g2) (hr : Room j X.A) (hc : X.calm = true) (tk : Takes X W) (ha : PA X [e, e2] (tCons te (tCons te2 tNil))) (hk : 2 ≤ j := by decide) (gl : Gl X x := by rfl)
    (hdb : (x == ("__debug__" : Str)) = false := by decide) (hst : starEach [e, e2] X.env = (false, eval e X.env) :: starEach [e2] X.env := by rfl) (hpl : (backTo p1 (starEach [e2] X.env)).any (·.1) = false := by rfl) :
    PS X (.Raise (some (.Call (.Name x p) [e, e2] [] p1)) none pos) (tRaise2 C g g2 te te2 W) := by
  obtain ⟨f, fd, y, y2, i1, i2, F, b⟩ := c.ex
  exact ps_raise (pos := pos) hc tk (pmk_oex (p := p) (pos := p1) c.oex i1 i2 F (hr.mono hk) b .nil pass0 gl c.m ha hdb hst hpl)
theorem s_raise2 {C : Addr} {g g2 : Str} {te te2 : TE} {W : WX} {D : Ends} {σ : L2.St} {H : Hp} (h : te σ H fun v H1 => te2 σ H1 fun v2 H2 => rMk2 C g g2 [v, v2] H2 (fun cls d H' => W cls d σ H')) : tRaise2 C g g2 te te2 W D σ H := h
theorem s_rz2 {C : Addr} {g g2 : Str} {v v2 : V} {H : Hp} {E : XK} (h : Rz2 C g g2 v v2 H E) : rMk2 C g g2 [v, v2] H E := by
  refine ⟨(show 2 ≤ 1000 by decide), fun a ha => ⟨a, v, v2, rfl, upd_same, fun dx h1 h2 => ⟨rfl, dx, [(g2, v2), (g, v)], ?_, upd_same, ?_, h dx _ ?_ ?_ upd_same⟩⟩⟩
  · rw [upd_ne (Ne.symm h2), upd_same]
  · rw [upd_ne h2] at h1; exact h1
  · rw [upd_ne h2] at h1; exact h1
  · intro b o e
    have n1 : b ≠ a := ne_of_none e ha
    have n2 : b ≠ dx := by
      rw [upd_ne h2] at h1
      exact ne_of_none e h1
    rw [upd_ne n2, del_ne n1, upd_ne n2, upd_ne n1, upd_ne n2, upd_ne n1]
    exact e
end L3
end
section
namespace L3
open PySem PySem.Spec PySem.Calls PyProof.Rows PySem.W PySem.TypeEq
theorem slot_fn_eq : Slot "function" (cmpInfo .Eq).2.1 "object.__eq__" :=
  .of (owner := "object") (n := "__eq__") (by rw [typeLookup_type, builtinLookup_eq_fast]; kernel_rfl) (by decide +kernel) (by decide +kernel) (by decide +kernel)
    (by first | exact .inl (by decide +kernel) | exact .inr (by decide +kernel)) (by rw [isSubtype_type]; kernel_rfl)
theorem slot_fn_eq_refl : Slot "function" (cmpInfo .Eq).2.2 "object.__eq__" :=
  .of (owner := "object") (n := "__eq__") (by rw [typeLookup_type, builtinLookup_eq_fast]; kernel_rfl) (by decide +kernel) (by decide +kernel) (by decide +kernel)
    (by first | exact .inl (by decide +kernel) | exact .inr (by decide +kernel)) (by rw [isSubtype_type]; kernel_rfl)
section
variable {prog : Program} {w : World} {A : Around} {E : Value → Shared → Prop} {s : Shared} {Q : Value → Shared → Prop} {f g : Addr} {of og : Obj}
theorem fn_eq (hf : s.heap.get? f = some of) (cf : of.cls = .type "function") (hg : s.heap.get? g = some og) (cg : og.cls = .type "function") (hu : A.units < cLine) (h : Q (.bool (decide (f = g))) s) : wpAny (model prog w) A (richCompare .Eq (.ref f) (.ref g)) Q E s := by
  have hT : s.TypeIs (.ref f) "function" := ⟨_, hf, cf⟩
  have hG : s.TypeIs (.ref g) "function" := ⟨_, hg, cg⟩
  rcases hi : cmpInfo CmpOp.Eq with ⟨sym, ff, r⟩
  have h1 := slot_fn_eq
  have h2 := slot_fn_eq_refl
  rw [hi] at h1 h2
  simp only [richCompare, hi, oneThing_ref]
  refine wpAny_holding (wpAny_bind (wpAny_cRoomFor hu ?_))
  refine wpAny_bind (wpAny_typeOf_ref hf ?_)
  rw [cf]
  refine wpAny_bind (wpAny_typeOf_ref hg ?_)
  rw [cg]
  simp only [bne_self_eq_false, Bool.false_eq_true, if_false, pure_bind, Bool.not_false, if_true]
  have nt : of.cls ≠ .type "tuple" := by rw [cf]; decide
  have nt' : og.cls ≠ .type "tuple" := by rw [cg]; decide
  by_cases e : f = g
  · subst e
    rw [decide_eq_true rfl] at h
    refine wpAny_bind (m := tryCompare (.ref f) _ (.ref f)) ?_
    simp only [tryCompare]
    refine wpAny_bind (wpAny_callSpecialIfBound?_slot hT h1 (wpAny_call (codeAny_call_builtin h1.plain F.entry_object_eq (h1.check _ _ _ _ _ _ _ _ hT (F.args_object_eq_2 _ _) (objEq_entry_same ?_)))))
    exact wpAny_pure (wpAny_pure h)
  · rw [decide_eq_false e] at h
    refine wpAny_bind (m := tryCompare (.ref f) _ (.ref g)) (wpAny_tryCompare_declines hT h1 (wpAny_call (codeAny_call_builtin h1.plain F.entry_object_eq (h1.check _ _ _ _ _ _ _ _ hT (F.args_object_eq_2 _ _) (objEq_entry_other e hf hg nt ⟨rfl, ?_⟩)))))
    refine wpAny_bind (m := tryCompare (.ref g) _ (.ref f)) (wpAny_tryCompare_declines hG h2 (wpAny_call (codeAny_call_builtin h2.plain F.entry_object_eq (h2.check _ _ _ _ _ _ _ _ hG (F.args_object_eq_2 _ _) (objEq_entry_other (Ne.symm e) hg hf nt' ⟨rfl, ?_⟩)))))
    exact wpAny_bind (wpAny_rule (wpAny_bind (wpAny_isSame_ref_other e hf hg nt (wpAny_pure h))))
end
end L3
namespace L3
open PySem PySem.Spec PyProof.Rows L2 LamX
/-- two functions made by lambdas -/
def FnAt (H : Hp) (f : Addr) : Prop := H f = some (FnV f)
theorem FnAt.exN {H H' : Hp} {f : Addr} (h : FnAt H f) (e : ExtN H H') : FnAt H' f := e _ _ h fun _ z => by unfold FnV at z; cases z
theorem FnAt.obj {X : Cx} {pins : List (Addr × Obj)} {σ : L2.St} {H : Hp} {s : Shared} {f : Addr} (I : Inv X pins σ H s) (h : FnAt H f) : ∃ o, s.heap.get? f = some o ∧ o.cls = .type "function" :=
  (show ObjOk X.prog X.w H s.heap f (FnV f) from I.hok f _ h).1
def rFnEq : R2 := fun x y H Q => ∃ f g, x = .ref f ∧ y = .ref g ∧ FnAt H f ∧ FnAt H g ∧ Q (.bl (decide (f = g))) H
theorem opFnEq {X : Cx} (hu : X.A.units < cLine) : OpR X (compareOp .Eq) rFnEq := by
  intro pins s σ H x y v u Q I rx ry h
  obtain ⟨f, g, rfl, rfl, hf, hg, q⟩ := h
  obtain rfl : v = Value.ref f := rx
  obtain rfl : u = Value.ref g := ry
  obtain ⟨of, f1, f2⟩ := hf.obj I
  obtain ⟨og, g1, g2⟩ := hg.obj I
  show wpAny _ _ (richCompare .Eq _ _) _ _ _
  exact fn_eq f1 f2 g1 g2 hu ⟨.bl _, H, I, rfl, q⟩
/-- own ==, ours first; the other one of any class that does not come first -/
def OthD (K : PySem.W.Frag) (C : Addr) (y : V) (H : Hp) : Prop := OthV C y H ∨ ∃ D b dx fs, y = .ref b ∧ H b = some (.ins D dx fs) ∧ PySem.W.notFirst K C (.ref D) = true
def rOwnD (K : PySem.W.Frag) (C : Addr) (sp : Sp) (E : XK) : R2 := fun x y H Q => ∃ a dx fs, x = .ref a ∧ H a = some (.ins C dx fs) ∧ OthD K C y H ∧ sp [x, y] H Q E
theorem othD_looks {X : Cx} {C : Addr} {pins : List (Addr × Obj)} {σ : L2.St} {H : Hp} {s : Shared} {y : V} {u : Value} (F : CmpF X.K C) (I : Inv X pins σ H s) (r : RelV y u) (h : OthD X.K C y H) : ∃ tb, PySem.W.Looks (model X.prog X.w) s.heap (typeOf u) tb ∧ PySem.W.notFirst X.K C tb = true := by
  rcases h with h | ⟨D, b, dx, fs, rfl, e, nf⟩
  · exact oth_looks F I r h
  · obtain rfl : u = Value.ref b := r
    obtain ⟨od, J⟩ := ins_inst I.hok e
    exact ⟨_, J.type, nf⟩
theorem eqOwnD {X : Cx} {K : PySem.W.Frag} {C : Addr} {k j : Nat} {sp : Sp} {E : XK} (hK : X.K = K) (F : CmpF X.K C) (B : Me X.prog X.w X.K X.mg X.base C "__eq__" k ["self", "other"] sp) (hr : Room j X.A) (hx : Passes (L2.CX X.prog X.w) X E) (hk : k ≤ j := by decide) :
    OpR X (compareOp .Eq) (rOwnD K C sp E) := by
  subst hK
  obtain ⟨f, fd, h1, h2, G, b⟩ := B.ex
  intro pins s σ H x y v u Q I rx ry h
  obtain ⟨a, dx, fs, rfl, ea, ho, q⟩ := h
  obtain rfl : v = Value.ref a := rx
  obtain ⟨od, J⟩ := ins_inst I.hok ea
  obtain ⟨tb, L, nf⟩ := othD_looks F I ry ho
  obtain ⟨mm, Fr⟩ := I.fr
  show wpAny _ _ (richCompare .Eq _ _) _ _ _
  exact PySem.W.cmp_K hr.units0 Fr I.mod.kin J L nf h1 h2 (wpAny_mono (run_fn G (hr.mono hk) b .nil hx I (vs := [.ref a, y]) (.cons (show RelV (.ref a) (.ref a) from rfl) (.cons ry .nil)) (by rw [List.append_nil]; exact q)) (fun w' s' ⟨v', H', I', r', z⟩ => rel_back r' ⟨v', H', I', r', z⟩) fun _ _ z => z)
/-- a class without defaults, made by the names of its parameters -/
theorem kbnP {K : PySem.W.Frag} {x qual : Str} {st : Stmt} {f : Addr} {fd : FuncData} {ps : List Str} (F : Fun K x qual st f fd) (ks : List Str) (g : ∀ {α : Type}, List α → List α → List α)
    (hrel : ∀ {vs zs : List V} {us ws : List Value}, Vals vs us → Vals zs ws → Vals (g vs zs) (g us ws))
    (h : ∀ (kV doc pm : Value) (an : Option Addr) (cdv ct : Value) (us ws : List Value), us.length = 1 → ws.length = ks.length → bindArgs (PySem.W.fnOf x qual (defArgs st) (defBody st) (defScope st) .none kV doc pm an cdv ct) ⟨us, ks.zip ws⟩ = pure (ps.zip (g us ws))) :
    KBn K fd ps 1 ks (fun us ws => g us ws) (fun vs zs => g vs zs) := by
  obtain ⟨oc, od, kV, doc, pm, an, cd, ct, sl, rfl, lk, hcd⟩ := F.ex
  exact ⟨fun s us ws hK h1 h2 => .of_eq (h kV doc pm an cd ct us ws h1 h2), fun a b => hrel a b⟩
def app1 {α : Type} : List α → List α → List α
  | [s], [u] => [s, u]
  | _, _ => []
theorem app1_rel {vs zs : List V} {us ws : List Value} (h1 : Vals vs us) (h2 : Vals zs ws) : Vals (app1 vs zs) (app1 us ws) := by
  cases h1 with
  | nil => exact .nil
  | cons a as =>
    cases as with
    | cons b bs => exact .nil
    | nil =>
      cases h2 with
      | nil => exact .nil
      | cons b bs =>
        cases bs with
        | nil => exact .cons a (.cons b .nil)
        | cons c cs => exact .nil
/-- self; w, y, x by name -/
def rev3 {α : Type} : List α → List α → List α
  | [s], [u, v, w] => [s, w, v, u]
  | _, _ => []
theorem rev3_rel {vs zs : List V} {us ws : List Value} (h1 : Vals vs us) (h2 : Vals zs ws) : Vals (rev3 vs zs) (rev3 us ws) := by
  cases h1 with
  | nil => exact .nil
  | cons a as =>
    cases as with
    | cons b bs => exact .nil
    | nil =>
      cases h2 with
      | nil => exact .nil
      | cons b bs =>
        cases bs with
        | nil => exact .nil
        | cons c cs =>
          cases cs with
          | nil => exact .nil
          | cons d ds =>
            cases ds with
            | nil => exact .cons a (.cons d (.cons c (.cons b .nil)))
            | cons e es => exact .nil
end L3
end
section
namespace L3
open PySem PySem.Spec PyProof.Rows L2 LamX
/-! ## rules of fixed sizes and quotients -/
/-- a number within, or anything else -/
def InB (v : V) (a b : Int) : Prop := ∃ i, v = .int i ∧ a ≤ i ∧ i ≤ b
def OutB (H : Hp) (v : V) (a b : Int) : Prop := (∃ t, Od H v t) ∨ ∃ i, v = .int i ∧ ¬ (a ≤ i ∧ i ≤ b)
theorem OutB.exN {H H' : Hp} {v : V} {a b : Int} (h : OutB H v a b) (e : ExtN H H') : OutB H' v a b := h.imp (fun ⟨t, h⟩ => ⟨t, h.exN e⟩) id
/-- a number or another value -/
def Kv (H : Hp) (v : V) : Prop := (∃ i, v = .int i) ∨ ∃ t, Od H v t
theorem Kv.exN {H H' : Hp} {v : V} (h : Kv H v) (e : ExtN H H') : Kv H' v := h.imp id fun ⟨t, h⟩ => ⟨t, h.exN e⟩
theorem Kv.ex {H H' : Hp} {v : V} (h : Kv H v) (e : Ex H H') : Kv H' v := h.exN e.n
theorem Kv.keep {H H' : Hp} {p : Addr} {v : V} (h : Kv H v) (hn : v ≠ .ref p) (k : ∀ b o, b ≠ p → H b = some o → H' b = some o) : Kv H' v := h.imp id fun ⟨t, h⟩ => ⟨t, h.keep hn k⟩
theorem Kv.cases {H : Hp} {v : V} (h : Kv H v) (a b : Int) : InB v a b ∨ OutB H v a b := by
  rcases h with ⟨i, rfl⟩ | h
  · by_cases z : a ≤ i ∧ i ≤ b
    · exact .inl ⟨i, rfl, z⟩
    · exact .inr (.inr ⟨i, rfl, z⟩)
  · exact .inr (.inl h)
theorem InB.kv {H : Hp} {v : V} {a b : Int} (h : InB v a b) : Kv H v := .inl ⟨h.choose, h.choose_spec.1⟩
theorem OutB.kv {H : Hp} {v : V} {a b : Int} (h : OutB H v a b) : Kv H v := by
  rcases h with h | ⟨i, h, _⟩
  · exact .inr h
  · exact .inl ⟨i, h⟩
def spWithin : Sp := fun vs H Q _ => ∃ x a b, vs = [x, .int a, .int b] ∧ ((InB x a b ∧ Q (.bl true) H) ∨ (OutB H x a b ∧ Q (.bl false) H))
def spSize : Sp := fun vs H Q _ => ∃ x, vs = [x] ∧ ((InB x 1 (10 ^ 30) ∧ Q (.bl true) H) ∨ (OutB H x 1 (10 ^ 30) ∧ Q (.bl false) H))
def fxF (i : Int) (t : Addr) : List (Str × V) := putF "modulus" (.int 1) (putF "parts" (.ref t) (putF "size" (.int i) []))
def Fx (C : Addr) (H : Hp) (q : Addr) (i : Int) : Prop := ∃ dx t, H q = some (.ins C dx (fxF i t)) ∧ H t = some (.tup [.ref q])
def dvF (x y w : Int) (t : Addr) : List (Str × V) := putF "modulus" (.int w) (putF "parts" (.ref t) (putF "w" (.int w) (putF "y" (.int y) (putF "x" (.int x) []))))
def Dv (C : Addr) (H : Hp) (q : Addr) (x y w : Int) : Prop := ∃ dx t, H q = some (.ins C dx (dvF x y w t)) ∧ H t = some (.tup [.ref q])
def byF (f t : Addr) : List (Str × V) := putF "modulus" (.int 1) (putF "parts" (.ref t) (putF "function" (.ref f) []))
def Byr (C : Addr) (H : Hp) (q f : Addr) : Prop := ∃ dx t, H q = some (.ins C dx (byF f t)) ∧ H t = some (.tup [])
section
variable {C CS CR : Addr} {H H' : Hp} {Q : VK} {E : XK}
theorem Fx.exN {q : Addr} {i : Int} (h : Fx C H q i) (e : ExtN H H') : Fx C H' q i := by
  obtain ⟨dx, t, a, b⟩ := h
  exact ⟨dx, t, e _ _ a (fun _ z => nomatch z), e _ _ b (fun _ z => nomatch z)⟩
theorem Fx.ex {q : Addr} {i : Int} (h : Fx C H q i) (e : Ex H H') : Fx C H' q i := h.exN e.n
theorem Dv.exN {q : Addr} {x y w : Int} (h : Dv C H q x y w) (e : ExtN H H') : Dv C H' q x y w := by
  obtain ⟨dx, t, a, b⟩ := h
  exact ⟨dx, t, e _ _ a (fun _ z => nomatch z), e _ _ b (fun _ z => nomatch z)⟩
theorem Dv.ex {q : Addr} {x y w : Int} (h : Dv C H q x y w) (e : Ex H H') : Dv C H' q x y w := h.exN e.n
theorem Byr.exN {q f : Addr} (h : Byr C H q f) (e : ExtN H H') : Byr C H' q f := by
  obtain ⟨dx, t, a, b⟩ := h
  exact ⟨dx, t, e _ _ a (fun _ z => nomatch z), e _ _ b (fun _ z => nomatch z)⟩
/-- what a made instance leaves: itself, its dict, its tuple -/
def MkT (C : Addr) (fs : Addr → List (Str × V)) (tv : List V) (p dx : Addr) (H : Hp) (Q : VK) : Prop := ∀ t H', H t = none → t ≠ p → (∀ c o, c ≠ p → H c = some o → H' c = some o) → H' t = some (.tup tv) → H' p = some (.ins C dx (fs t)) → Q .non H'
theorem mkt {fs : Addr → List (Str × V)} {tv : List V} {p dx : Addr} (hp : H p = none) (hd : H dx = none) (hn : dx ≠ p) (h : ∀ t H', H t = none → Ex H H' → H' p = some (.ins C dx (fs t)) → H' t = some (.tup tv) → Q (.ref p) H') :
    MkT C fs tv p dx (upd (upd H dx (.own p)) p (.ins C dx [])) (fun v H2 => v = .non ∧ ap Q (.ref p) H2) := fun t H' ht htp hk h1 h2 => by
  have ht' : H t = none := by
    rw [upd_ne htp] at ht
    by_cases z : t = dx
    · rw [z]; exact hd
    · rw [upd_ne z] at ht; exact ht
  refine ⟨rfl, h t H' ht' (fun c o e => ?_) h2 h1⟩
  exact hk c o (ne_of_none e hp) (by rw [upd_ne (ne_of_none e hp), upd_ne (ne_of_none e hd)]; exact e)
def spFx (C CS : Addr) : Sp := fun vs H Q E => ∃ p dx x, vs = [.ref p, x] ∧ H p = some (.ins C dx []) ∧
  ((∃ i, x = .int i ∧ (1 ≤ i ∧ i ≤ 10 ^ 30) ∧ MkT C (fxF i) [.ref p] p dx H Q) ∨ (OutB H x 1 (10 ^ 30) ∧ Rz CS "value" x H E))
def WrD (H : Hp) (a b c : V) (z : Str) : Prop := (OutB H a 0 24 ∧ z = "x") ∨ (InB a 0 24 ∧ OutB H b (-1000) 1000 ∧ z = "y") ∨ (InB a 0 24 ∧ InB b (-1000) 1000 ∧ OutB H c 1 24 ∧ z = "w")
theorem WrD.exN {a b c : V} {z : Str} (h : WrD H a b c z) (e : ExtN H H') : WrD H' a b c z := by
  rcases h with ⟨h, r⟩ | ⟨i, h, r⟩ | ⟨i, j, h, r⟩
  · exact .inl ⟨h.exN e, r⟩
  · exact .inr (.inl ⟨i, h.exN e, r⟩)
  · exact .inr (.inr ⟨i, j, h.exN e, r⟩)
def spDv (C CR : Addr) : Sp := fun vs H Q E => ∃ p dx a b c, vs = [.ref p, a, b, c] ∧ H p = some (.ins C dx []) ∧
  ((∃ x y w, a = .int x ∧ b = .int y ∧ c = .int w ∧ (0 ≤ x ∧ x ≤ 24) ∧ (-1000 ≤ y ∧ y ≤ 1000) ∧ (1 ≤ w ∧ w ≤ 24) ∧ MkT C (dvF x y w) [.ref p] p dx H Q) ∨ (∃ z, WrD H a b c z ∧ Rz CR "part" (.str z) H E))
def spBy (C : Addr) : Sp := fun vs H Q _ => ∃ p dx f, vs = [.ref p, .ref f] ∧ H p = some (.ins C dx []) ∧ MkT C (byF f) [] p dx H Q
def spUp (C CR : Addr) : Sp := fun vs H Q E => ∃ c, vs = [c] ∧ ((∃ w, c = .int w ∧ (1 ≤ w ∧ w ≤ 24) ∧ ∀ q H', H q = none → Ex H H' → Dv C H' q 1 (w - 1) w → Q (.ref q) H') ∨ (OutB H c 1 24 ∧ Rz CR "part" (.str "w") H E))
theorem s_mkFx {dvs : List V} {i : Int} (hi : 1 ≤ i ∧ i ≤ 10 ^ 30) (h : ∀ q H', H q = none → Ex H H' → Fx C H' q i → Q (.ref q) H') : ∀ p dx, H p = none → H dx = none → dx ≠ p → spFx C CS (.ref p :: ([.int i] ++ [])) (upd (upd H dx (.own p)) p (.ins C dx [])) (fun v H2 => v = .non ∧ ap Q (.ref p) H2) E := fun p dx hp hd hn =>
  ⟨p, dx, _, rfl, upd_same, .inl ⟨i, rfl, hi, mkt hp hd hn fun t H' ht e h1 h2 => h p H' hp e ⟨dx, t, h1, h2⟩⟩⟩
theorem s_mkFxB {x : V} (hx : OutB H x 1 (10 ^ 30)) (h : Rz CS "value" x H E) : ∀ p dx, H p = none → H dx = none → dx ≠ p → spFx C CS (.ref p :: ([x] ++ [])) (upd (upd H dx (.own p)) p (.ins C dx [])) (fun v H2 => v = .non ∧ ap Q (.ref p) H2) E := fun p dx hp hd hn =>
  ⟨p, dx, _, rfl, upd_same, .inr ⟨hx.exN (mk_ex hp hd).n, h.ex (mk_ex hp hd)⟩⟩
theorem s_mkDv {x y w : Int} (hx : 0 ≤ x ∧ x ≤ 24) (hy : -1000 ≤ y ∧ y ≤ 1000) (hw : 1 ≤ w ∧ w ≤ 24) (h : ∀ q H', H q = none → Ex H H' → Dv C H' q x y w → Q (.ref q) H') : ∀ p dx, H p = none → H dx = none → dx ≠ p → spDv C CR (.ref p :: ([.int x, .int y, .int w] ++ [])) (upd (upd H dx (.own p)) p (.ins C dx [])) (fun v H2 => v = .non ∧ ap Q (.ref p) H2) E := fun p dx hp hd hn =>
  ⟨p, dx, _, _, _, rfl, upd_same, .inl ⟨x, y, w, rfl, rfl, rfl, hx, hy, hw, mkt hp hd hn fun t H' ht e h1 h2 => h p H' hp e ⟨dx, t, h1, h2⟩⟩⟩
theorem s_mkDvB {a b c : V} {z : Str} (hx : WrD H a b c z) (h : Rz CR "part" (.str z) H E) : ∀ p dx, H p = none → H dx = none → dx ≠ p → spDv C CR (.ref p :: ([a, b, c] ++ [])) (upd (upd H dx (.own p)) p (.ins C dx [])) (fun v H2 => v = .non ∧ ap Q (.ref p) H2) E := fun p dx hp hd hn =>
  ⟨p, dx, _, _, _, rfl, upd_same, .inr ⟨z, hx.exN (mk_ex hp hd).n, h.ex (mk_ex hp hd)⟩⟩
theorem s_mkBy {f : Addr} (h : ∀ q H', H q = none → Ex H H' → Byr C H' q f → Q (.ref q) H') : ∀ p dx, H p = none → H dx = none → dx ≠ p → spBy C (.ref p :: ([.ref f] ++ [])) (upd (upd H dx (.own p)) p (.ins C dx [])) (fun v H2 => v = .non ∧ ap Q (.ref p) H2) E := fun p dx hp hd hn =>
  ⟨p, dx, f, rfl, upd_same, mkt hp hd hn fun t H' ht e h1 h2 => h p H' hp e ⟨dx, t, h1, h2⟩⟩
/-! own == -/
def spEqF (C : Addr) : Sp := fun vs H Q _ => ∃ p y i, vs = [.ref p, y] ∧ Fx C H p i ∧ ((∃ q j, y = .ref q ∧ Fx C H q j ∧ Q (.bl (decide (i = j))) H) ∨ ((∃ k, y = .int k) ∧ Q (.bl false) H) ∨ (∃ D q x z w, y = .ref q ∧ D ≠ C ∧ Dv D H q x z w ∧ Q (.bl false) H))
def spEqD (C : Addr) : Sp := fun vs H Q _ => ∃ p q x y w x' y' w', vs = [.ref p, .ref q] ∧ Dv C H p x y w ∧ Dv C H q x' y' w' ∧ Q (.bl (decide (x = x') && (decide (y = y') && decide (w = w')))) H
def spEqB (C : Addr) : Sp := fun vs H Q _ => ∃ p q f g, vs = [.ref p, .ref q] ∧ Byr C H p f ∧ Byr C H q g ∧ FnAt H f ∧ FnAt H g ∧ Q (.bl (decide (f = g))) H
/-! what hears -/
def TTu (K : PySem.W.Frag) (CR CS : Addr) : (XK → Hp → VK → Prop) → Hp → VK → Prop := fun tl H Q => ∀ (W : XK) (S : VK),
  (∀ cls d H', ((∃ dd v, cls = .ref CR ∧ d = some dd ∧ H' dd = some (.xd [("part", v)]) ∧ ∀ p H2, H' p = none → Ex H' H2 → H2 p = some (.tup [.str "rule", v]) → Q (.ref p) H2) ∨
    (∃ dd v t, cls = .ref CS ∧ d = some dd ∧ H' dd = some (.xd [("value", v)]) ∧ (∀ H2 (R : VK), Ex H' H2 → R (.str t) H2 → rReprU K [v] H2 R) ∧ ∀ p H2, H' p = none → Ex H' H2 → H2 p = some (.tup [.str "size", .str t]) → Q (.ref p) H2)) → W cls d H') →
  (∀ v H', (∀ p H2, H' p = none → Ex H' H2 → H2 p = some (.lst [v]) → Q (.ref p) H2) → S v H') → tl W H S
end
end L3
end
section
namespace L3
open PySem PySem.Spec PyProof.Rows L2 LamX
section
variable {K : PySem.W.Frag} {σ : L2.St} {H H' : Hp} {Q : VK} {C CR CS CF CD : Addr}
/-! ## what is heard of rules -/
theorem s_hearMk {Tt : List (Addr × Str)} {t : XK → TE} {Pd : Hp → Addr → Prop} (ht : Tabs Tt H) (hPd : ∀ H H' q, Pd H q → Ex H H' → Pd H' q)
    (ask : ∀ (E : XK) (H1 : Hp) (S : VK), ExtN H H1 → (∀ q H', H1 q = none → Ex H1 H' → Pd H' q → S (.ref q) H') → t E σ H1 S)
    (k : ∀ p q H2, ExtN H H2 → Tabs Tt H2 → Pd H2 q → H2 p = some (.lst [.ref q]) → Q (.ref p) H2) : tLam Tt (TTu K CR CS) t σ H Q := by
  refine ⟨ht, fun H1 e1 t1 W S hW hS => ?_⟩
  show t _ σ H1 _
  exact ask _ H1 _ e1 fun q H' _ e' hp => hS _ _ fun p H2 hp2 e2 h2 => k p q H2 (e1.trans (e'.trans e2).n) (t1.ext (e'.trans e2)) (hPd _ _ _ hp e2) h2
theorem s_hearSz {Tt : List (Addr × Str)} {t : XK → TE} {v : V} {tx : Str} (ht : Tabs Tt H) (hod : Vl H v tx) (ask : ∀ (E : XK) (H1 : Hp) (Q' : VK), ExtN H H1 → Rz CS "value" v H1 E → t E σ H1 Q')
    (k : ∀ p H2, ExtN H H2 → Tabs Tt H2 → H2 p = some (.tup [.str "size", .str tx]) → Q (.ref p) H2) : tLam Tt (TTu K CR CS) t σ H Q := by
  refine ⟨ht, fun H1 e1 t1 W S hW hS => ?_⟩
  show t _ σ H1 _
  exact ask _ H1 _ e1 fun d H' hd e' hx => hW _ _ _ (.inr ⟨d, v, tx, rfl, rfl, hx, fun H2 R e2 r => ((hod.exN e1).exN (e'.trans e2).n).repr r, fun p H2 hp e2 h2 => k p H2 (e1.trans (e'.trans e2).n) (t1.ext (e'.trans e2)) h2⟩)
theorem s_hearRl {Tt : List (Addr × Str)} {t : XK → TE} {z : Str} (ht : Tabs Tt H) (ask : ∀ (E : XK) (H1 : Hp) (Q' : VK), ExtN H H1 → Rz CR "part" (.str z) H1 E → t E σ H1 Q')
    (k : ∀ p H2, ExtN H H2 → Tabs Tt H2 → H2 p = some (.tup [.str "rule", .str z]) → Q (.ref p) H2) : tLam Tt (TTu K CR CS) t σ H Q := by
  refine ⟨ht, fun H1 e1 t1 W S hW hS => ?_⟩
  show t _ σ H1 _
  exact ask _ H1 _ e1 fun d H' hd e' hx => hW _ _ _ (.inl ⟨d, .str z, rfl, rfl, hx, fun p H2 hp e2 h2 => k p H2 (e1.trans (e'.trans e2).n) (t1.ext (e'.trans e2)) h2⟩)
def spEqF2 (CF CD : Addr) : Sp := fun vs H Q _ => ∃ p y i, vs = [.ref p, y] ∧ Fx CF H p i ∧ ((∃ q j, y = .ref q ∧ Fx CF H q j ∧ Q (.bl (decide (i = j))) H) ∨ ((∃ k, y = .int k) ∧ Q (.bl false) H) ∨ (∃ q x z w, y = .ref q ∧ Dv CD H q x z w ∧ Q (.bl false) H))
/-- == of two fixed sizes, of two quotients, of two functions -/
theorem s_eqFx {p q : Addr} {i j : Int} {E : XK} (h1 : Fx CF H p i) (h2 : Fx CF H q j) (h : Q (.bl (decide (i = j))) H) : rOwnD K CF (spEqF2 CF CD) E (.ref p) (.ref q) H Q := by
  obtain ⟨d1, t1, e1, _⟩ := id h1
  obtain ⟨d2, t2, e2, _⟩ := id h2
  exact ⟨p, d1, _, rfl, e1, .inl (.inl ⟨q, d2, _, rfl, e2⟩), p, _, i, rfl, h1, .inl ⟨q, j, rfl, h2, h⟩⟩
theorem s_eqFD {p q : Addr} {i x y w : Int} {E : XK} (nf : PySem.W.notFirst K CF (.ref CD) = true) (h1 : Fx CF H p i) (h2 : Dv CD H q x y w) (h : Q (.bl false) H) : rOwnD K CF (spEqF2 CF CD) E (.ref p) (.ref q) H Q := by
  obtain ⟨d1, t1, e1, _⟩ := id h1
  obtain ⟨d2, t2, e2, _⟩ := id h2
  exact ⟨p, d1, _, rfl, e1, .inr ⟨CD, q, d2, _, rfl, e2, nf⟩, p, _, i, rfl, h1, .inr (.inr ⟨q, x, y, w, rfl, h2, h⟩)⟩
theorem s_neFI {p : Addr} {i n : Int} {E : XK} (h1 : Fx CF H p i) (h : Q (.bl true) H) : rNeQ (rOwn CF (spEqF2 CF CD) E) (.ref p) (.int n) H Q := by
  obtain ⟨d1, t1, e1, _⟩ := id h1
  exact ⟨p, d1, _, rfl, e1, .inr (.inl ⟨n, rfl⟩), p, _, i, rfl, h1, .inr (.inl ⟨⟨n, rfl⟩, false, rfl, h⟩)⟩
theorem s_eqDv {p q : Addr} {x y w x' y' w' : Int} {E : XK} (h1 : Dv CD H p x y w) (h2 : Dv CD H q x' y' w') (h : Q (.bl (decide (x = x') && (decide (y = y') && decide (w = w')))) H) : rOwnD K CD (spEqD CD) E (.ref p) (.ref q) H Q := by
  obtain ⟨d1, t1, e1, _⟩ := id h1
  obtain ⟨d2, t2, e2, _⟩ := id h2
  exact ⟨p, d1, _, rfl, e1, .inl (.inl ⟨q, d2, _, rfl, e2⟩), p, q, x, y, w, x', y', w', rfl, h1, h2, h⟩
theorem s_eqBy {p q f g : Addr} {E : XK} (h1 : Byr C H p f) (h2 : Byr C H q g) (f1 : FnAt H f) (f2 : FnAt H g) (h : Q (.bl (decide (f = g))) H) : rOwnD K C (spEqB C) E (.ref p) (.ref q) H Q := by
  obtain ⟨d1, t1, e1, _⟩ := id h1
  obtain ⟨d2, t2, e2, _⟩ := id h2
  exact ⟨p, d1, _, rfl, e1, .inl (.inl ⟨q, d2, _, rfl, e2⟩), p, q, f, g, rfl, h1, h2, f1, f2, h⟩
theorem sh2 {a b : Str} (ha : PyData.strOk a = true) (hb : PyData.strOk b = true) : SeqAt.shaped (.tuple [.str a, .str b]) = true := by
  unfold SeqAt.shaped; simp only [PyData.canLay0, PyData.canLayAll0, ha, hb]; rfl
/-- the list of other values -/
def OddL (H : Hp) (l : Addr) : Prop := ∃ t e d, H l = some (.lst [.non, .bl true, .str "1", .ref t, .ref e, .ref d, .bl false]) ∧ H t = some (.tup [.int 1]) ∧ H e = some (.lst []) ∧ H d = some (.dK [])
theorem OddL.ex {l : Addr} (h : OddL H l) (e : Ex H H') : OddL H' l := by
  obtain ⟨t, a, d, h1, h2, h3, h4⟩ := h
  exact ⟨t, a, d, e _ _ h1, e _ _ h2, e _ _ h3, e _ _ h4⟩
theorem OddL.keep {l p : Addr} {n : Nat} (h : OddL H l) (hp : Pen H p n) (k : ∀ b o, b ≠ p → H b = some o → H' b = some o) : OddL H' l := by
  obtain ⟨t, a, d, h1, h2, h3, h4⟩ := h
  have nn : ∀ {q : Addr} {o : HO}, H q = some o → (∀ c n, o ≠ PenO p c n) → H' q = some o := fun {q o} e z => k _ _ (hp.ne e z) e
  exact ⟨t, a, d, nn h1 (fun c n z => by unfold PenO at z; cases z), nn h2 (fun c n z => by unfold PenO at z; cases z), nn h3 (fun c n z => by unfold PenO at z; cases z), nn h4 (fun c n z => by unfold PenO at z; cases z)⟩
/-- one of them is picked -/
theorem s_pickOdd {l p : Addr} {n : Nat} (h : OddL H l) (hp : Pen H p n) (hn : n < lim) (k : ∀ v H', Kv H' v → v ≠ .ref p → Pen H' p (n + 1) → (∀ b o, b ≠ p → H b = some o → H' b = some o) → Q v H') {E : XK} : spPick [.ref p, .ref l] H Q E := by
  obtain ⟨t, a, d, h1, h2, h3, h4⟩ := id h
  refine ⟨p, l, n, _, rfl, h1, by simp, by simp, hp, hn, fun v H' hv p' k' => ?_⟩
  have nn : ∀ {q : Addr} {o : HO}, H q = some o → (∀ c n, o ≠ PenO p c n) → q ≠ p := fun {q o} e z => hp.ne e z
  have n2 := nn h2 fun c n z => by unfold PenO at z; cases z
  have n3 := nn h3 fun c n z => by unfold PenO at z; cases z
  have n4 := nn h4 fun c n z => by unfold PenO at z; cases z
  simp only [List.mem_cons, List.not_mem_nil, or_false] at hv
  rcases hv with rfl | rfl | rfl | rfl | rfl | rfl | rfl
  · exact k _ _ (.inr ⟨_, .non⟩) (fun z => nomatch z) p' k'
  · exact k _ _ (.inr ⟨_, .bl _⟩) (fun z => nomatch z) p' k'
  · exact k _ _ (.inr ⟨_, .str _ (by decide) (by decide +kernel)⟩) (fun z => nomatch z) p' k'
  · exact k _ _ (.inr ⟨_, .tup (k' _ _ n2 h2) (by decide +kernel) (by decide +kernel)⟩) (fun z => n2 (V.ref.inj z)) p' k'
  · exact k _ _ (.inr ⟨_, .lst (k' _ _ n3 h3) (by decide +kernel) (by decide)⟩) (fun z => n3 (V.ref.inj z)) p' k'
  · exact k _ _ (.inr ⟨_, .dic (k' _ _ n4 h4)⟩) (fun z => n4 (V.ref.inj z)) p' k'
  · exact k _ _ (.inr ⟨_, .bl _⟩) (fun z => nomatch z) p' k'
theorem s_lamV {T : List (Addr × Str)} (ht : Tabs T H) (h : ∀ f H1, H f = none → ExtN H H1 → Tabs T H1 → FnAt H1 f → Q (.ref f) H1) : tLamV T σ H Q := ⟨ht, h⟩
theorem Byr.ex {q f : Addr} (h : Byr C H q f) (e : Ex H H') : Byr C H' q f := h.exN e.n
theorem FnAt.ex {f : Addr} (h : FnAt H f) (e : Ex H H') : FnAt H' f := h.exN e.n
end
end L3
end
section
namespace L3
open PySem PySem.Spec PySem.HandSPX
section
variable {M : Model} {A : Around} {E : Value → Shared → Prop} {h : Heap} {g : Array GenState} {d : Drawn} {t : Nat} {os : OsState}
variable {nm q : Str} {C N : Addr} {bs bm bmB : List Value} {hdct : Bool} {sn : List Str} {sub : List Value} {ab : Bool} {col : Option Bool} {dd : Option Addr} {k0 k1 k2 k3 k5 : Option Value} {B newId initId : String}
theorem checkNewK (F : ExcBaseFacts B newId initId bmB) (hT : ∀ X : String, bm.contains (.type X) = bmB.contains (.type X)) {rest : List Value} {kw : List (Str × Value)} {Q : Unit → Shared → Prop}
    (hC : h.get? C = some (excClassObj nm q C N bs bm hdct sn sub ab col dd k0 k1 k2 k3 k5 newId)) (hq : Q () ⟨h, g, d, t, os⟩) : wpAny M A (checkBuiltinCall newId ⟨.ref C :: rest, kw⟩) Q E ⟨h, g, d, t, os⟩ := by
  have hcont : (Value.ref C :: bm).contains (.type B) = true := by rw [List.contains_cons, hT, F.hasB, Bool.or_true]
  have hstar := F.noStar
  simp only [checkBuiltinCall, F.newKind, F.newSplit, F.newRow]
  repeat (first | refine wpAny_loadPart_at hC ?_ | (refine wpAny_isSubtype_exc hC ?_; rw [hcont]) | refine wpAny_staticBase_exc hC ?_ | refine wpAny_madeBy_exc hC ?_ | simp only [bne_self_eq_false, Bool.false_eq_true, if_false] | wp_step)
  exact hq
theorem checkCallK {rest : List Value} {kw : List (Str × Value)} {Q : Unit → Shared → Prop} (hC : h.get? C = some (excClassObj nm q C N bs bm hdct sn sub ab col dd k0 k1 k2 k3 k5 newId))
    (hq : Q () ⟨h, g, d, t, os⟩) : wpAny M A (checkBuiltinCall "type.__call__" ⟨.ref C :: rest, kw⟩) Q E ⟨h, g, d, t, os⟩ := by
  have f3 := tc_sub
  have hT : (⟨h, g, d, t, os⟩ : Shared).TypeIs (.ref C) "type" := ⟨_, hC, rfl⟩
  simp only [checkBuiltinCall, tc_kind, tc_split]
  repeat (any_goals (first | assumption | with_reducible refine wpAny_loadPart_at hC ?_ | with_reducible refine wpAny_onRaise ?_ | with_reducible refine wpAny_map ?_ | wp_step))
end
section
variable {prog : Program} {w : World} {A : Around} {E : Value → Shared → Prop} {R : Result → Shared → Prop} {h : Heap} {g : Array GenState} {d : Drawn} {t : Nat} {os : OsState}
variable {nm q : Str} {C N : Addr} {bs bm bmB : List Value} {hdct : Bool} {sn : List Str} {sub : List Value} {ab : Bool} {col : Option Bool} {dd : Option Addr} {k0 k1 k2 k3 k5 : Option Value} {B newId initId : String}
theorem newK (F : ExcBaseFacts B newId initId bmB) (hT : ∀ X : String, bm.contains (.type X) = bmB.contains (.type X)) {rest : List Value} {kw : List (Str × Value)}
    (hC : h.get? C = some (excClassObj nm q C N bs bm hdct sn sub ab col dd k0 k1 k2 k3 k5 newId))
    (hq : R (.ok (.ret (.ref (h.objs.size + 1)))) ⟨(h.push { cls := .type "tuple", data := .seq rest.toArray }).push
      { cls := .ref C, data := .fields #[.ref h.objs.size, .none, .none, .none, .bool false, .none] }, g, d, t, os⟩) (hrest : rest.length ≤ sizeLine) :
    codeAny (model prog w) A (.builtin newId ⟨.ref C :: rest, kw⟩) R ⟨h, g, d, t, os⟩ := by
  have hends := F.ends
  have hcB : (Value.ref C :: bm).contains (.type B) = true := by rw [List.contains_cons, hT, F.hasB, Bool.or_true]
  have hcA : (Value.ref C :: bm).contains (.type "AttributeError") = false := by rw [List.contains_cons, hT, F.noAttr]; rfl
  have hcN : (Value.ref C :: bm).contains (.type "NameError") = false := by rw [List.contains_cons, hT, F.noName]; rfl
  refine codeAny_builtinAt F.entry ?_
  unfold Builtin.«BaseException.__new__»
  refine wpAt_bind ?_
  show wpAt _ _ _ (stack >>= _) _ _ _
  refine wpAt_bind (wpAt_stack fun p below => wpAt_of_wpAny ?_)
  wp_walk
  refine wpAt_of_wpAny ?_
  rw [F.owner]
  repeat (first | with_reducible refine wpAny_madeHere_exc F.canon hC ?_ | with_reducible refine wpAny_loadPart_at hC ?_ | (with_reducible refine wpAny_isSubtype_exc hC ?_; first | rw [hcB] | rw [hcA] | rw [hcN]) | wp_step)
  show R _ _
  rw [Heap.size_push]
  exact hq
theorem typeCallK (F : ExcBaseFacts B newId initId bmB) (hT : ∀ X : String, bm.contains (.type X) = bmB.contains (.type X)) {rest : List Value} {kw : List (Str × Value)} {fI : Addr} {Q : Fin → Shared → Prop}
    (hC : h.get? C = some (excClassObj nm q C N bs bm hdct sn sub ab col dd k0 k1 k2 k3 k5 newId))
    (hi : W.Looks (model prog w) h (typeLookup (.ref C) "__init__") (some (.ref fI))) (hb : ∀ self, W.Looks (model prog w) h (bindSpecial (.ref fI) self) (.ref fI, [self])) (hrest : rest.length ≤ sizeLine)
    (hq : codeAny (model prog w) A (.call (.ref fI) ⟨.ref (h.objs.size + 1) :: rest, kw⟩)
      (fun r s' => match r with | .ok (.ret v) => v = .none ∧ Q (.done (.ret (.ref (h.objs.size + 1)))) s' | .ok _ => False | .error e => E e s')
      ⟨(h.push (W.kdv_tup rest)).push (excO C h.objs.size), g, d, t, os⟩) :
    wpAny (model prog w) A (Builtin.«type.__call__» ⟨.ref C :: rest, kw⟩) Q E ⟨h, g, d, t, os⟩ := by
  repeat (first | with_reducible refine wpAny_loadPart_at hC ?_ | with_reducible refine wpAny_madeBy_exc hC ?_ | wp_step)
  refine codeAny_call_builtin_code (Code.quiet_builtin _ F.quiet) (checkNewK F hT hC ?_)
  refine newK F hT hC ?_ hrest
  show wpAny _ _ _ _ _ _
  have k : ∀ b o, h.get? b = some o → ((h.push (W.kdv_tup rest)).push (excO C h.objs.size)).get? b = some o := fun b o e => Heap.get?_push_of_some _ (Heap.get?_push_of_some _ e)
  have hC₁ := k _ _ hC
  have hget : ((h.push (W.kdv_tup rest)).push (excO C h.objs.size)).get? (h.objs.size + 1) = some (excO C h.objs.size) := by heap_get
  have hcC : (Value.ref C :: bm).contains (.ref C) = true := by simp
  have i1 := hi.keeps k
  have b1 := (hb (.ref (h.objs.size + 1))).keeps k
  unfold isInstance
  repeat (first | with_reducible refine wpAny_loadPart_at hget ?_ | (with_reducible refine wpAny_isSubtype_exc hC₁ ?_; rw [hcC]) | wp_step)
  show wpAny _ _ (typeLookup (.ref C) _) _ _ _
  refine i1.at ?_
  refine wpAny_holding (wpAny_bind (b1.at ?_))
  refine wpAny_bind (wpAny_call (codeAny_mono hq fun r s' z => ?_))
  rcases r with e | (v | _ | _ | _) <;> first | exact z | exact z.elim | skip
  obtain ⟨rfl, z⟩ := z
  first
    | exact wpAny_pure (wpAny_pure z)
    | (wp_walk; exact z)
theorem callOwnK (F : ExcBaseFacts B newId initId bmB) (hT : ∀ X : String, bm.contains (.type X) = bmB.contains (.type X)) {rest : List Value} {kw : List (Str × Value)} {fI : Addr}
    (hC : h.get? C = some (excClassObj nm q C N bs bm hdct sn sub ab col dd k0 k1 k2 k3 k5 newId))
    (hi : W.Looks (model prog w) h (typeLookup (.ref C) "__init__") (some (.ref fI))) (hb : ∀ self, W.Looks (model prog w) h (bindSpecial (.ref fI) self) (.ref fI, [self])) (hrest : rest.length ≤ sizeLine)
    (hq : codeAny (model prog w) (A.under (.builtin "type.__call__" ⟨.ref C :: rest, kw⟩)) (.call (.ref fI) ⟨.ref (h.objs.size + 1) :: rest, kw⟩) (W.InitBack (h.objs.size + 1) R)
      ⟨(h.push (W.kdv_tup rest)).push (excO C h.objs.size), g, d, t, os⟩) :
    codeAny (model prog w) A (.call (.ref C) ⟨rest, kw⟩) R ⟨h, g, d, t, os⟩ := by
  have f1 := tc_lookup
  have f2 := tc_bind (.ref C)
  have hTy : (⟨h, g, d, t, os⟩ : Shared).TypeIs (.ref C) "type" := ⟨_, hC, rfl⟩
  refine codeAny_of_tree ?_
  show wpAny _ _ (callAny (.ref C) _) _ _ _
  repeat (any_goals (first | assumption | with_reducible refine wpAny_loadPart_at hC ?_ | wp_step))
  refine ⟨rfl, ?_⟩
  refine codeAny_call_builtin_at (Code.quiet_builtin _ (by decide +kernel)) entry_typeCall (checkCallK hC (typeCallK F hT hC hi hb hrest ?_))
  refine codeAny_mono hq fun r s' z => ?_
  rcases r with e | (v | _ | _ | _) <;> exact z
end
end L3
end
section
namespace L3
open PySem PySem.Spec PyProof.Rows L2 LamX
/-! ## a lambda with a parameter, kept, and called from anywhere -/
def LamF (f : Addr) (q : Str) (params : Arguments) (body : Expr) (scope : Scope) (c' : Addr) : HO := .ext fun h => ∃ pm ctv, h.get? f = some (PySem.W.kla_obj "<lambda>" q params body scope [] pm c' ctv)
theorem lamF_ok {P : Program} {w : World} {H : Hp} {h : Heap} {f c' : Addr} {q : Str} {params : Arguments} {body : Expr} {scope : Scope} {pm ctv : Value} (e : h.get? f = some (PySem.W.kla_obj "<lambda>" q params body scope [] pm c' ctv)) : ObjOk P w H h f (LamF f q params body scope c') :=
  ⟨⟨pm, ctv, e⟩, ⟨_, e⟩, fun _ _ ⟨pm, ctv, q⟩ k => ⟨pm, ctv, k _ q⟩⟩
theorem clo_nil (cells : List (Str × Addr)) : ∀ (ns : List (Str × NameKind)) (acc : List (Str × Addr)), (∀ y ∈ ns, y.2 ≠ .free) → cloFrom cells ns acc = acc
  | [], _, _ => rfl
  | (n, k) :: r, acc, h => by
    have hk : (k == NameKind.free) = false := by
      cases k with
      | free => exact absurd rfl (h (n, .free) List.mem_cons_self)
      | _ => rfl
    show (if (k == NameKind.free) = true then _ else cloFrom cells r acc) = acc
    rw [hk, if_neg Bool.false_ne_true]
    exact clo_nil cells r acc fun y hy => h y (List.mem_cons_of_mem _ hy)
def tLamF (T : List (Addr × Str)) (q : Str) (params : Arguments) (body : Expr) (scope : Scope) : TE := fun _ H Q => Tabs T H ∧ ∀ f c' H1, H f = none → ExtN H H1 → Tabs T H1 → H1 f = some (LamF f q params body scope c') → H1 c' = some (CodeO c' q) → ap Q (.ref f) H1
theorem pe_lamF {X : Cx} {T : List (Addr × Str)} {c P : Addr} {params : Arguments} {body : Expr} {scope : Scope} {pos : Pos} (TB : TabB X.base X.mg c P) (hcode : X.env.code = .ref c) (hm : (P, X.env.qual ++ "<lambda>") ∈ T)
    (hu : ∀ p ∈ T, p.1 = P → p.2 = X.env.qual ++ "<lambda>") (hdef : defaultsOf params X.env = ([], [])) (hfree : ∀ y ∈ scope.names, y.2 ≠ .free) : PE X (.Lambda params body scope pos) (tLamF T (X.env.qual ++ "<lambda>") params body scope) := by
  constructor
  intro pins s σ H Q I h
  obtain ⟨hT, k⟩ := h
  obtain ⟨ps, hP, ht, ha⟩ := hT _ hm
  have hfr : ∀ y ∈ scope.names, y.2 = .free → ∃ c, X.env.cells.lookup y.1 = some c := fun y hy e => absurd e (hfree y hy)
  have hcl : closureFor scope X.env = pure [] := by rw [closure_ok hfr, clo_nil _ _ _ hfree]
  refine PySem.W.kla_eval hdef ?_
  have bP : s.heap.BuiltinsAt X.mg P := TB.bm.keeps I.bk
  have hP' : s.heap.get? P = some { cls := .none, data := .fields ps } := I.hok P _ hP
  cases hc : codeAmong pos ps.toList with
  | none =>
    refine PySem.W.kla_makeFunction (mg := X.mg) (c := c) (P := P) (ps := ps) hcl I.ok.glob (I.mod.glob.keeps I.bk) hcode (TB.code.keeps I.bk) hP' ht hc TB.gP bP fun c' ctv h' tk hx hge hlt hrec htb => ?_
    obtain ⟨c2, oc, vs, t, e2, hoc, hd, hv⟩ := hrec
    cases e2
    have hsz : s.heap.objs.size ≤ h'.objs.size := Nat.le_trans hge (Nat.le_of_lt hlt)
    have nC : H c' = none := I.hok.fresh hge
    have I1 : Inv X pins σ _ { s with heap := h', toks := tk } := inv_table (t' := tk) (more := #[rawInt pos.line, rawInt pos.col, .ref c']) I hP hx htb hge ⟨oc, vs, t, hoc, hd, hv⟩
    generalize hH1 : upd (upd H P (.tbl (ps ++ #[rawInt pos.line, rawInt pos.col, .ref c']))) c' (CodeO c' (X.env.qual ++ "<lambda>")) = H1 at I1
    have nPc : P ≠ c' := ne_of_none hP nC
    have eN : ExtN H H1 := fun b o e n => by
      rw [← hH1, upd_ne (ne_of_none e nC), upd_ne (fun z => n ps (Option.some.inj (e.symm.trans (by rw [z]; exact hP))))]
      exact e
    have T1 : Tabs T H1 := fun p hp => by
      by_cases hb : p.1 = P
      · rw [hu p hp hb, hb]
        refine ⟨ps ++ #[rawInt pos.line, rawInt pos.col, .ref c'], by rw [← hH1, upd_ne nPc, upd_same], by simp only [Array.toList_append]; exact PySem.TriplesOk_snoc _ _ _ _ ht, fun p' v hv => ?_⟩
        simp only [Array.toList_append] at hv
        rcases among_app _ ht hv with z | z
        · obtain ⟨c0, e1, e2⟩ := ha p' v z
          exact ⟨c0, e1, eN _ _ e2 codeO_ne⟩
        · exact ⟨c', z, by rw [← hH1]; exact upd_same⟩
      · obtain ⟨qs, a1, a2, a3⟩ := hT p hp
        refine ⟨qs, by rw [← hH1, upd_ne (ne_of_none a1 nC), upd_ne hb]; exact a1, a2, fun p' v hv => ?_⟩
        obtain ⟨c0, e1, e2⟩ := a3 p' v hv
        exact ⟨c0, e1, eN _ _ e2 codeO_ne⟩
    have nf : H1 h'.objs.size = none := I1.hok.fresh (Nat.le_refl _)
    have I2 := I1.laid (t' := tk) (h' := h'.push (PySem.W.kla_obj "<lambda>" (X.env.qual ++ "<lambda>") params body scope [] ((X.mg "__name__").getD .none) c' ctv)) (a := h'.objs.size) (o := LamF h'.objs.size (X.env.qual ++ "<lambda>") params body scope c')
      (fun b o e => Heap.get?_push_of_some _ e) (Nat.le_refl _) (lamF_ok (Heap.get?_push_size _ rfl))
    exact ⟨.ref h'.objs.size, _, I2, rfl, k _ c' _ (I.hok.fresh hsz) (eN.trans (.of (ex_new nf))) (Tabs.up T1 nf) upd_same (by rw [upd_ne (ne_of_none (by rw [← hH1]; exact upd_same) nf), ← hH1]; exact upd_same)⟩
  | some cv =>
    obtain ⟨c', e, hco⟩ := ha pos cv hc
    subst e
    refine PySem.W.kla_makeFunctionHit (mg := X.mg) (c := c) (P := P) (ps := ps) hcl I.ok.glob (I.mod.glob.keeps I.bk) hcode (TB.code.keeps I.bk) hP' ht hc bP fun ctv h' tk hx hsz => ?_
    have I1 : Inv X pins σ H { s with heap := h', toks := tk } := I.kept hx
    have nf : H h'.objs.size = none := I.hok.fresh hsz
    have I2 := I1.laid (t' := tk) (h' := h'.push (PySem.W.kla_obj "<lambda>" (X.env.qual ++ "<lambda>") params body scope [] ((X.mg "__name__").getD .none) c' ctv)) (a := h'.objs.size) (o := LamF h'.objs.size (X.env.qual ++ "<lambda>") params body scope c')
      (fun b o e => Heap.get?_push_of_some _ e) (Nat.le_refl _) (lamF_ok (Heap.get?_push_size _ rfl))
    exact ⟨.ref h'.objs.size, _, I2, rfl, k _ c' _ nf (.of (ex_new nf)) (Tabs.up hT nf) upd_same (by rw [upd_ne (ne_of_none hco nf)]; exact hco)⟩
theorem lam_run {P : Program} {w : World} {K : PySem.W.Frag} {mg : Str → Option Value} {base : Heap} {CX : CXT} {k : Nat} {f c' : Addr} {q : Str} {params : Arguments} {body : Expr} {scope : Scope} {pm ctv : Value} {N ps : List Str} {A : Around} {outer : List Env} {s : Shared} {H : Hp} {args : Args} {us : List Value} {vs : List V} {Q : VK} {E : XK}
    (of1 : s.heap.get? f = some (PySem.W.kla_obj "<lambda>" q params body scope [] pm c' ctv)) (hcr : s.heap.CodeRec (.ref c') q) (S : FnScope N ps scope) (hr : Room (k + 1) A) (e0 : Env0 P w K mg base A outer s H)
    (hb : bindArgs (PySem.W.kla_fn "<lambda>" q params body scope [] pm (.ref c') ctv) args = pure (ps.zip us)) (r : Vals vs us) (hl : vs.length = ps.length)
    (hbody : Room k (A.deeper (envOfC q scope s.heap.objs.size f (.ref c'))) → ∃ t, PE (cxOf CX P w K mg base N q scope f (.ref c') A outer s H E) body t ∧ t (L2.start N vs) H Q) :
    codeAny (model P w) A (.call (.ref f) args) (CR CX outer P w H s Q E) s := by
  have lim : s.heap.NoLimit := e0.mod.nolimit.keeps fun b o e => (e0.bs b o e).1
  have hkind : ∀ y ∈ ps.zip us, scope.names.lookup y.1 = some .local ∨ (scope.names.lookup y.1 = some .cell ∧ ((cellsFrom (s.heap.objs.size + 1) scope.names []).lookup y.1).isSome = true) := fun ⟨n, v⟩ hy => (S.par n (List.of_mem_zip hy).1).imp id fun q => ⟨q, PySem.W.cellsFrom_some _ _ _ (.inl q)⟩
  refine PySem.W.kla_callFunE hr.depth of1 rfl S.co S.gen rfl hcr ?_
  rw [hb]
  refine wpAny_pure (wpAny_newFunctionEnv_cells S.kind hkind fun env he s1 x => ?_)
  subst he
  refine ⟨lim.keeps x.toInCall.keep, ?_⟩
  obtain ⟨t, ht, hq⟩ := hbody (hr.deeper _)
  have I : Inv (cxOf CX P w K mg base N q scope f (.ref c') A outer s H E) [] (L2.start N vs) H s1 := inv_start S hr.hd e0 hl r x
  refine PySem.W.kla_codeExpr (wpAny_mono (ht.run [] s1 (L2.start N vs) H Q I hq) (fun v s' hs => ?_) fun e s' hs => hs)
  obtain ⟨v', H', J, rv, q⟩ := hs
  exact ⟨v', H', J.os, J.bare, J.base, J.hok, rv, q⟩
/-- what is promised of such a lambda, wherever it is called -/
structure Lam1 (P : Program) (w : World) (K : PySem.W.Frag) (mg : Str → Option Value) (base : Heap) (k : Nat) (x : Str) (q : Str) (params : Arguments) (body : Expr) (scope : Scope) (sp : Sp) : Prop where
  bind : ∀ (pm cv ctv u : Value), bindArgs (PySem.W.kla_fn "<lambda>" q params body scope [] pm cv ctv) ⟨[u], []⟩ = pure [(x, u)]
  sc : FnScope [x] [x] scope
  body : ∀ (A : Around) (outer : List Env) (s : Shared) (H : Hp) (E : XK) (f c' : Addr) (v : V) (Q : VK), Room k (A.deeper (envOfC q scope s.heap.objs.size f (.ref c'))) → sp [v] H Q E → ∃ t, PE (cxOf CX0 P w K mg base [x] q scope f (.ref c') A outer s H E) body t ∧ t [some v] H Q
def LamAt (P : Program) (w : World) (K : PySem.W.Frag) (mg : Str → Option Value) (base : Heap) (k : Nat) (H : Hp) (f : Addr) (sp : Sp) : Prop :=
  ∃ (x q : Str) (params : Arguments) (body : Expr) (scope : Scope) (c' : Addr), H f = some (LamF f q params body scope c') ∧ H c' = some (CodeO c' q) ∧ Lam1 P w K mg base k x q params body scope sp
theorem LamAt.exN {P : Program} {w : World} {K : PySem.W.Frag} {mg : Str → Option Value} {base : Heap} {k : Nat} {H H' : Hp} {f : Addr} {sp : Sp} (h : LamAt P w K mg base k H f sp) (e : ExtN H H') : LamAt P w K mg base k H' f sp := by
  obtain ⟨x, q, params, body, scope, c', h1, h2, h3⟩ := h
  exact ⟨x, q, params, body, scope, c', e _ _ h1 (fun _ z => by unfold LamF at z; cases z), e _ _ h2 codeO_ne, h3⟩
theorem LamAt.keep {P : Program} {w : World} {K : PySem.W.Frag} {mg : Str → Option Value} {base : Heap} {k : Nat} {H H' : Hp} {f : Addr} {sp : Sp} (h : LamAt P w K mg base k H f sp) (e : ∀ b o, H b = some o → (∃ f q a b s c, o = LamF f q a b s c) ∨ (∃ c q, o = CodeO c q) → H' b = some o) : LamAt P w K mg base k H' f sp := by
  obtain ⟨x, q, params, body, scope, c', h1, h2, h3⟩ := h
  exact ⟨x, q, params, body, scope, c', e _ _ h1 (.inl ⟨_, _, _, _, _, _, rfl⟩), e _ _ h2 (.inr ⟨_, _, rfl⟩), h3⟩
def tCallF (P : Program) (w : World) (K : PySem.W.Frag) (mg : Str → Option Value) (base : Heap) (k : Nat) (tf : TE) (ta : TA) : TE := fun σ H Q =>
  tf σ H fun fv H1 => ∃ (f : Addr) (sp : Sp), fv = .ref f ∧ LamAt P w K mg base k H1 f sp ∧ ta σ H1 fun vs H2 => ∃ v, vs = [v] ∧ LamAt P w K mg base k H2 f sp ∧ sp [v] H2 Q (fun _ _ _ => False)
theorem pe_callF {X : Cx} {k j : Nat} {fe e : Expr} {tf : TE} {ta : TA} {pos : Pos} (hr : Room j X.A) (hf : PE X fe tf) (ha : PA X [e] ta) (hk : k + 1 ≤ j := by decide)
    (harm : eval (.Call fe [e] [] pos) X.env = (do callWith pos (← eval fe X.env) [] (backTo pos (starEach [e] X.env)) (backToKw pos (keywordEach [] X.env))) := by rfl)
    (he : starEach [e] X.env = (false, eval e X.env) :: starEach [] X.env := by rfl) (hpl : (backTo pos (starEach [] X.env)).any (·.1) = false := by rfl) :
    PE X (.Call fe [e] [] pos) (tCallF X.prog X.w X.K X.mg X.base k tf ta) := by
  refine ⟨fun pins s σ H Q I h => ?_⟩
  rw [harm]
  refine wpAny_bind (thn (hf.run pins s σ H _ I h) fun fv s1 hh => ?_)
  obtain ⟨v0, H1, I1, r0, f, sp, rfl, la, h1⟩ := hh
  obtain rfl : fv = Value.ref f := r0
  have at1 : ∀ {H1 : Hp} {s1 : Shared}, Inv X pins σ H1 s1 → LamAt X.prog X.w X.K X.mg X.base k H1 f sp → PySem.W.FnAt f s1.heap := fun {H1 s1} I1 la => by
    obtain ⟨x, q, params, body, scope, c', h1, _, _⟩ := la
    obtain ⟨⟨pm, ctv, of1⟩, _⟩ := (show ObjOk X.prog X.w H1 s1.heap f (LamF f q params body scope c') from I1.hok f _ h1)
    exact ⟨_, _, _, _, of1⟩
  refine PySem.W.callWith_F (at1 I1 la) (thn (ha.run pos pins s1 σ H1 _ I1 h1) fun us s2 hh => ?_) he hpl
  obtain ⟨vs, H2, I2, r2, v, rfl, lb, h2⟩ := hh
  obtain ⟨u, rfl, ru⟩ := vals1 r2
  refine ⟨at1 I2 lb, ?_⟩
  obtain ⟨x, q, params, body, scope, c', h3, h4, L⟩ := lb
  obtain ⟨⟨pm, ctv, of1⟩, _⟩ := (show ObjOk X.prog X.w H2 s2.heap f (LamF f q params body scope c') from I2.hok f _ h3)
  obtain ⟨⟨oc, ws, t, hoc, hdc, hvc⟩, _⟩ := (show ObjOk X.prog X.w H2 s2.heap c' (CodeO c' q) from I2.hok c' _ h4)
  refine wpAny_call (codeAny_mono (lam_run (CX := CX0) (E := fun _ _ _ => False) (Q := Q) (N := [x]) (ps := [x]) (us := [u]) (vs := [v]) of1 ⟨c', oc, ws, t, rfl, hoc, hdc, hvc⟩ L.sc (hr.mono hk) I2.env0 (L.bind pm _ ctv u) (.cons ru .nil) rfl fun hr' => L.body _ _ _ _ _ _ _ _ _ hr' h2) fun r s' hq => ?_)
  match r, hq with
  | .error e, hq => exact pass0 pins σ H2 s2 e s' I2 hq
  | .ok (.ret u), hq => exact I2.after hq
end L3
end
section
namespace L3
open PySem PySem.Spec PyProof.Rows L2 LamX
/-! ## an error of the package as a value -/
structure ErV (P : Program) (w : World) (K : PySem.W.Frag) (mg : Str → Option Value) (base : Heap) (x : Str) (C : Addr) (n : Nat) (ps : List Str) (sp : Sp) (ks : List Str) (gV : List V → List V → List V) : Prop where
  oex : OexC K C
  m : mg x = some (.ref C)
  ex : ∃ (f : Addr) (fd : FuncData) (g : List Value → List Value → List Value), PySem.W.findIn K (.ref C) "__init__" = some (some (.ref f)) ∧ PySem.W.typeIn K (.ref f) = some (.type "function") ∧ FnOk P w K mg base CX0 1 f fd ps sp ∧ KBn K fd ps (n + 1) ks g gV
def tErV (C : Addr) (n m : Nat) (sp : Sp) (gV : List V → List V → List V) (ta tk : TA) : TE := fun σ H Q => ta σ H fun vs H1 => tk σ H1 fun zs H2 => vs.length = n ∧ zs.length = m ∧ vs.length ≤ 1000 ∧
  ∀ a, H2 a = none → sp (gV (.ref a :: vs) zs) (upd H2 a (exo a C none)) (fun v H3 => v = .non ∧ ap Q (.ref a) H3) (fun _ _ _ => False)
section
variable {X : Cx} {x : Str} {C : Addr} {n : Nat} {ps ks : List Str} {sp : Sp} {gV : List V → List V → List V}
theorem err_code {pins : List (Addr × Obj)} {σ : L2.St} {H1 : Hp} {s1 : Shared} {vs zs : List V} {us ws : List Value} {Q : VK} (c : ErV X.prog X.w X.K X.mg X.base x C n ps sp ks gV) (hr : Room 2 X.A) (I1 : Inv X pins σ H1 s1) (r1 : Vals vs us) (r2 : Vals zs ws) (hn : vs.length = n) (hm : zs.length = ks.length) (hz : vs.length ≤ 1000)
    (q1 : ∀ a, H1 a = none → sp (gV (.ref a :: vs) zs) (upd H1 a (exo a C none)) (fun v H3 => v = .non ∧ ap Q (.ref a) H3) (fun _ _ _ => False)) :
    codeAny (model X.prog X.w) X.A (.call (.ref C) ⟨us, ks.zip ws⟩) (fun r s' => ∃ u, r = .ok (.ret u) ∧ ∃ v H', Inv X pins σ H' s' ∧ RelV v u ∧ Q v H') s1 := by
  obtain ⟨fI, fd, g, iC, tI, F1, b⟩ := c.ex
  obtain ⟨nm, q, N, bs, bm, sn, sub, ab, col, dd, k0, k1, k2, k3, k5, hC, hbm⟩ := c.oex.cls
  obtain ⟨hp, gs, dr, tk, os⟩ := s1
  have hsz : hp.objs.size ≤ hp.objs.size + 1 := Nat.le_succ _
  have hn1 : H1 (hp.objs.size + 1) = none := I1.hok.fresh hsz
  have hq := q1 (hp.objs.size + 1) hn1
  have kk : ∀ b o, hp.get? b = some o → ((hp.push (PySem.W.kdv_tup us)).push (PySem.HandSPX.excO C hp.objs.size)).get? b = some o := fun b o e => Heap.get?_push_of_some _ (Heap.get?_push_of_some _ e)
  have hgt : ((hp.push (PySem.W.kdv_tup us)).push (PySem.HandSPX.excO C hp.objs.size)).get? (hp.objs.size + 1) = some (PySem.HandSPX.excO C hp.objs.size) := by heap_get
  have I2 : Inv X pins σ (upd H1 (hp.objs.size + 1) (exo (hp.objs.size + 1) C none)) ⟨(hp.push (PySem.W.kdv_tup us)).push (PySem.HandSPX.excO C hp.objs.size), gs, dr, tk, os⟩ :=
    I1.laid (t' := tk) (a := hp.objs.size + 1) (o := exo (hp.objs.size + 1) C none) (h' := (hp.push (PySem.W.kdv_tup us)).push (PySem.HandSPX.excO C hp.objs.size)) kk hsz (exo_ok hgt)
  have rr := b.rel (vs := V.ref (hp.objs.size + 1) :: vs) (us := Value.ref (hp.objs.size + 1) :: us) (.cons rfl r1) r2
  have hus : us.length ≤ sizeLine := by
    rw [← Paired.length r1, sizeLine_eq]
    omega
  have hb2 := b.to _ (Value.ref (hp.objs.size + 1) :: us) ws I2.kIn (by rw [List.length_cons, ← Paired.length r1, hn]) (by rw [← Paired.length r2, hm])
  refine callOwnK F.excBase_ValueError (fun Y => PySem.HandSPX.refsVE_contains Y bm hbm) (I1.kIn _ _ hC) (PySem.W.looks_findIn I1.kIn iC) (fun self => PySem.W.bind_fn I1.kIn self tI) hus
    (codeAny_mono (F1.run _ X.stack _ _ ⟨Value.ref (hp.objs.size + 1) :: us, ks.zip ws⟩ (g (Value.ref (hp.objs.size + 1) :: us) ws) _ _ (fun _ _ _ => False) (hr.make C us _) (I2.env0.make C us _) hb2 rr hq) fun r s' hq' => ?_)
  match r, hq' with
  | .error e, hq' => exact False.elim hq'
  | .ok (.ret u), hq' =>
    obtain ⟨v, H3, I3, rv, ev, q3⟩ := I2.after hq'
    subst ev
    exact ⟨rv, _, rfl, .ref (hp.objs.size + 1), H3, I3, rfl, q3⟩
variable {e : Expr} {es : List Expr} {kws : List Keyword} {t : TA} {p pos : Pos} {j : Nat}
theorem pe_erV (c : ErV X.prog X.w X.K X.mg X.base x C n ps sp [] gV) (hr : Room j X.A) (ha : PA X (e :: es) t) (hk : 2 ≤ j := by decide) (gl : Gl X x := by rfl)
    (hdb : (x == ("__debug__" : Str)) = false := by decide) (he : starEach (e :: es) X.env = (false, eval e X.env) :: starEach es X.env := by rfl) (hpl : (backTo pos (starEach es X.env)).any (·.1) = false := by rfl) :
    PE X (.Call (.Name x p) (e :: es) [] pos) (tErV C n 0 sp gV t tNil) := by
  refine ⟨fun pins s σ H Q I h => ?_⟩
  refine wpAny_Call_Name_kw (ld_glob I gl c.m ?_ hdb)
  refine PySem.W.callWith_K (h₀ := X.base) I.ok.mod.kin c.oex.kC (thn (ha.run pos pins s σ H _ I h) fun us s1 q => ?_) he hpl
  obtain ⟨vs, H1, I1, r, h1, h2, h3, h4⟩ := q
  refine ⟨I1.kIn, wpAny_call (codeAny_mono (err_code (ws := []) (zs := []) c (hr.mono hk) I1 r .nil h1 rfl h3 h4) fun y s' z => ?_)⟩
  obtain ⟨u, rfl, v, H', I', rv, q'⟩ := z
  exact ⟨v, H', I', rv, q'⟩
theorem pe_erV0 (c : ErV X.prog X.w X.K X.mg X.base x C 0 ps sp [] gV) (hr : Room j X.A) (hk : 2 ≤ j := by decide) (gl : Gl X x := by rfl)
    (hdb : (x == ("__debug__" : Str)) = false := by decide) : PE X (.Call (.Name x p) [] [] pos) (tErV C 0 0 sp gV tNil tNil) := by
  refine ⟨fun pins s σ H Q I h => ?_⟩
  obtain ⟨h1, h2, h3, h4⟩ := h
  refine wpAny_Call_Name_kw (ld_glob I gl c.m (PySem.W.callWith_K0 I.kIn c.oex.kC ?_) hdb)
  refine wpAny_call (codeAny_mono (err_code (us := []) (vs := []) (ws := []) (zs := []) c (hr.mono hk) I .nil .nil rfl rfl h3 h4) fun y s' z => ?_)
  obtain ⟨u, rfl, v, H', I', rv, q'⟩ := z
  exact ⟨v, H', I', rv, q'⟩
theorem pe_erVk (c : ErV X.prog X.w X.K X.mg X.base x C 0 ps sp ks gV) (hr : Room j X.A) (ha : PK X kws t) (hk : 2 ≤ j := by decide) (gl : Gl X x := by rfl)
    (hall : (backToKw pos (keywordEach kws X.env)).all (·.1.isSome) = true := by rfl) (hks : (backToKw pos (keywordEach kws X.env)).filterMap (·.1) = ks := by rfl) (hpl : ((backTo pos (starEach [] X.env)).any (·.1) || (backToKw pos (keywordEach kws X.env)).any (·.1.isNone)) = false := by rfl)
    (hdb : (x == ("__debug__" : Str)) = false := by decide) : PE X (.Call (.Name x p) [] kws pos) (tErV C 0 ks.length sp gV tNil t) := by
  refine ⟨fun pins s σ H Q I h => ?_⟩
  refine wpAny_Call_Name_kw (ld_glob I gl c.m (PySem.W.callWith_KW0 (h₀ := X.base) I.ok.mod.kin c.oex.kC hall (thn (ha.run pos pins s σ H _ I h) fun us s1 q => ?_) hpl) hdb)
  obtain ⟨zs, H1, I1, r, h1, h2, h3, h4⟩ := q
  rw [hks]
  refine ⟨I1.kIn, wpAny_call (codeAny_mono (err_code (us := []) (vs := []) c (hr.mono hk) I1 .nil r rfl h2 h3 h4) fun y s' z => ?_)⟩
  obtain ⟨u, rfl, v, H', I', rv, q'⟩ := z
  exact ⟨v, H', I', rv, q'⟩
end
/-! ## such errors read: their class, their fields -/
def ErAt (H : Hp) (a C : Addr) (fs : List (Str × V)) : Prop := (∃ d, H a = some (exo a C (some d)) ∧ H d = some (exd d fs)) ∨ (fs = [] ∧ H a = some (exo a C none))
theorem exo_tbl {e C : Addr} {d : Option Addr} : ∀ ps, exo e C d ≠ .tbl ps := fun _ z => by unfold exo at z; cases z
theorem exd_tbl {d : Addr} {fs : List (Str × V)} : ∀ ps, exd d fs ≠ .tbl ps := fun _ z => by unfold exd at z; cases z
theorem ErAt.exN {H H' : Hp} {a C : Addr} {fs : List (Str × V)} (h : ErAt H a C fs) (e : ExtN H H') : ErAt H' a C fs := by
  rcases h with ⟨d, h1, h2⟩ | ⟨h1, h2⟩
  · exact .inl ⟨d, e _ _ h1 exo_tbl, e _ _ h2 exd_tbl⟩
  · exact .inr ⟨h1, e _ _ h2 exo_tbl⟩
theorem exo_inst {P : Program} {w : World} {H : Hp} {h : Heap} {a C d : Addr} {fs : List (Str × V)} (hok : HOk P w H h) (e : H a = some (exo a C (some d))) (ed : H d = some (exd d fs)) :
    ∃ (oe od : Obj) (mA : Str → Option Value), PySem.W.InstAt h a oe C (some od) ∧ (∀ f, RelO (fs.lookup f) (mA f)) ∧ ∀ n, PySem.W.lookIn n od = some (mA n) := by
  obtain ⟨⟨t1, e1⟩, _⟩ := (show ObjOk P w H h a (exo a C (some d)) from hok a _ e)
  obtain ⟨⟨mA, hns, hr⟩, _⟩ := (show ObjOk P w H h d (exd d fs) from hok d _ ed)
  obtain ⟨od, ho, hl⟩ := lookIn_ns hns
  exact ⟨_, od, mA, ⟨e1, rfl, by rfl, ho⟩, hr, hl⟩
def rIsiE (K : PySem.W.Frag) : List V → Hp → VK → Prop := fun xs H Q => rIsiA K xs H Q ∨ (∃ (a C : Addr) (c : V) (u : Value) (fs : List (Str × V)) (b : Bool), xs = [.ref a, c] ∧ ClsV c u ∧ ErAt H a C fs ∧ ExcC K C ∧ PySem.W.kitOne K (.ref C) u = some b ∧ Q (.bl b) H) ∨
  (∃ (a C : Addr) (c : V) (u : Value) (b : Bool), xs = [.ref a, c] ∧ ClsV c u ∧ H a = some (ExO (.ref C) a) ∧ ExcC K C ∧ PySem.W.kitOne K (.ref C) u = some b ∧ Q (.bl b) H)
theorem callIsiE {X : Cx} : CallR X (.builtin "isinstance") (rIsiE X.K) := by
  intro pins s σ H xs us Q I r h
  rcases h with h | ⟨a, C, c, u, fs, b, rfl, k, ea, T, e, q⟩ | ⟨a, C, c, u, b, rfl, k, ea, T, e, q⟩
  · exact callIsi pins s σ H xs us Q I r h
  · obtain ⟨u1, u2, rfl, r1, r2⟩ := vals2 r
    have e2 := k.eq r2
    subst e2
    cases (show u1 = Value.ref a from r1)
    rcases ea with ⟨d, ea, ed⟩ | ⟨_, ea⟩
    · obtain ⟨oe, od, mA, J, _⟩ := exo_inst I.hok ea ed
      exact PySem.W.kia_one (kit_exc T) I.kIn ⟨oe, od, J⟩ e (fun z => nomatch z) fun tk => ⟨.bl b, H, I.tok tk, rfl, q⟩
    · obtain ⟨⟨t1, e1⟩, _⟩ := (show ObjOk X.prog X.w H s.heap a (exo a C none) from I.hok a _ ea)
      have J : PySem.W.InstAt s.heap a _ C none := ⟨e1, rfl, by rfl, trivial⟩
      exact PySem.W.kia_one (PySem.W.handS_kitx_exc T.hg T.hk T.hs T.hd T.ha T.hn T.ht T.hm) I.kIn J e (fun z => nomatch z) fun tk => ⟨.bl b, H, I.tok tk, rfl, q⟩
  · obtain ⟨u1, u2, rfl, r1, r2⟩ := vals2 r
    have e2 := k.eq r2
    subst e2
    cases (show u1 = Value.ref a from r1)
    obtain ⟨⟨oe, vs, e1, z, hd, _⟩, _⟩ := (show ObjOk X.prog X.w H s.heap a (ExO (.ref C) a) from I.hok a _ ea)
    have J : PySem.W.InstAt s.heap a oe C none := ⟨e1, z.1, by unfold PySem.W.notCls; rw [hd] <;> rfl, by rw [z.2]; trivial⟩
    exact PySem.W.kia_one (PySem.W.handS_kitx_exc T.hg T.hk T.hs T.hd T.ha T.hn T.ht T.hm) I.kIn J e (fun z => nomatch z) fun tk => ⟨.bl b, H, I.tok tk, rfl, q⟩
def tXfE (K : PySem.W.Frag) (n : Str) (te : TE) : TE := fun σ H Q => te σ H fun x H1 => ∃ (a C : Addr) (fs : List (Str × V)) (v : V), x = .ref a ∧ ErAt H1 a C fs ∧ XfC K C ∧ PySem.W.findIn K (.ref C) n = some none ∧ fs.lookup n = some v ∧ Q v H1
theorem pe_xfE {X : Cx} {e : Expr} {te : TE} {pos : Pos} {n : Str} (he : PE X e te) (hb : attributeBase e n X.env (eval e X.env) = eval e X.env := by rfl) : PE X (.Attribute e n pos) (tXfE X.K n te) := by
  refine ⟨fun pins s σ H Q I h => ?_⟩
  refine attr_of hb (thn (he.run pins s σ H _ I h) fun u s1 hh => ?_)
  obtain ⟨x, H1, I1, rx, a, C, fs, v, rfl, ea, T, hno, l, q⟩ := hh
  obtain rfl : u = Value.ref a := rx
  rcases ea with ⟨d, ea, ed⟩ | ⟨rfl, ea⟩
  · obtain ⟨oe, od, mA, J, hr, hl⟩ := exo_inst I1.hok ea ed
    obtain ⟨u, hu, ru⟩ := RelO.some_of (v := v) (o := mA n) (by rw [← l]; exact hr n)
    exact HandSPX.exc_get I1.kIn J T.ga T.gg T.exC (PySem.W.findObj_own T.hdC hno rfl (by rw [hl, hu])) (handed_of ru) ⟨v, H1, I1.tok _, ru, q⟩
  · cases l
/-! ## lists, with the place that they are not at -/
def tLstN (t : TA) : TE := fun σ H Q => t σ H fun xs H1 => xs.length ≤ sizeLine ∧ ∀ p, H1 p = none → p ≠ sysModules → ap Q (.ref p) (upd H1 p (.lst xs))
theorem pe_lstN {X : Cx} {es : List Expr} {t : TA} {pos : Pos} (h : PA X es t) : PE X (.List es pos) (tLstN t) := by
  refine ⟨fun pins s σ H Q I hq => ?_⟩
  refine wpAny_List_spliced (thn (h.run pos pins s σ H _ I hq) fun us s1 ⟨xs, H1, I1, r, z, q⟩ => ⟨by rw [← r.length]; exact z, ?_⟩)
  exact ⟨.ref s1.heap.objs.size, upd H1 s1.heap.objs.size (.lst xs), I1.laid (t' := s1.toks) (fun b u e => Heap.get?_push_of_some _ e) (Nat.le_refl _) ⟨z, us, 0, r, Heap.get?_push_size _ rfl⟩, rfl, q _ (I1.hok.fresh (Nat.le_refl _)) (Nat.ne_of_gt I1.big)⟩
/-! ## values of any kind, as data; repr of lists of them -/
def litB : V → Bool
  | .int _ => true
  | .bl _ => true
  | .str _ => true
  | .non => true
  | _ => false
def litD : V → PyData
  | .int i => .int i
  | .bl b => .bool b
  | .str z => .str z
  | _ => .none
theorem readsFlat {h : Heap} : ∀ {xs : List V} {us : List Value}, Vals xs us → xs.all litB = true → ReadsAll h us (xs.map litD) []
  | [], _, r, _ => by cases r; exact .nil
  | x :: xs, _, r, hf => by
    cases r with
    | cons rx rs =>
      rw [List.all_cons, Bool.and_eq_true] at hf
      have ih := readsFlat (h := h) rs hf.2
      have one : ∀ {u : Value}, RelV x u → Reads h u (litD x) [] := fun {u} rx => by
        cases x with
        | int i => obtain ⟨t, rfl⟩ := rx; exact .int i t
        | bl b => cases (show u = Value.bool b from rx); exact .bool b
        | str z => obtain ⟨t, rfl⟩ := rx; exact .str z t
        | non => cases (show u = Value.none from rx); exact .none
        | _ => exact absurd hf.1 (by simp [litB])
      exact .cons (one rx) ih
inductive Vd (H : Hp) : V → PyData → Prop
  | non : Vd H .non .none
  | bl (b : Bool) : Vd H (.bl b) (.bool b)
  | int (i : Int) : Vd H (.int i) (.int i)
  | str (z : Str) : Vd H (.str z) (.str z)
  | tup {p : Addr} {xs : List V} : H p = some (.tup xs) → xs.all litB = true → Vd H (.ref p) (.tuple (xs.map litD))
  | lst {p : Addr} {xs : List V} : H p = some (.lst xs) → p ≠ sysModules → xs.all litB = true → Vd H (.ref p) (.list (xs.map litD))
  | d0 {p : Addr} : H p = some (.dK []) → Vd H (.ref p) (.dict [])
  | d1 {p : Addr} {k v : Str} : H p = some (.dK [(.inr k, .str v)]) → Vd H (.ref p) (.dict [(.str k, .str v)])
theorem Vd.map {H H' : Hp} {v : V} {d : PyData} (h : Vd H v d) (f : ∀ a o, v = .ref a → H a = some o → (∀ ps, o ≠ .tbl ps) → H' a = some o) : Vd H' v d := by
  cases h with
  | non => exact .non
  | bl b => exact .bl b
  | int i => exact .int i
  | str z => exact .str z
  | tup h1 h2 => exact .tup (f _ _ rfl h1 fun _ z => nomatch z) h2
  | lst h1 h2 h3 => exact .lst (f _ _ rfl h1 fun _ z => nomatch z) h2 h3
  | d0 h1 => exact .d0 (f _ _ rfl h1 fun _ z => nomatch z)
  | d1 h1 => exact .d1 (f _ _ rfl h1 fun _ z => nomatch z)
theorem Vd.exN {H H' : Hp} {v : V} {d : PyData} (h : Vd H v d) (e : ExtN H H') : Vd H' v d := h.map fun a o _ h n => e a o h n
theorem Vd.ex {H H' : Hp} {v : V} {d : PyData} (h : Vd H v d) (e : Ex H H') : Vd H' v d := h.exN e.n
theorem Vd.reads {X : Cx} {pins : List (Addr × Obj)} {σ : L2.St} {H : Hp} {s : Shared} {v : V} {d : PyData} {u : Value} (I : Inv X pins σ H s) (h : Vd H v d) (r : RelV v u) : ∃ as, Reads s.heap u d as ∧ sysModules ∉ as := by
  cases h with
  | non => cases (show u = Value.none from r); exact ⟨[], .none, by simp⟩
  | bl b => cases (show u = Value.bool b from r); exact ⟨[], .bool b, by simp⟩
  | int i => obtain ⟨t, rfl⟩ := r; exact ⟨[], .int i t, by simp⟩
  | str z => obtain ⟨t, rfl⟩ := r; exact ⟨[], .str z t, by simp⟩
  | @tup p xs h1 h2 =>
    cases (show u = Value.ref p from r)
    obtain ⟨_, its, rv, o, e1, e2, n, e3⟩ := (show ObjOk X.prog X.w H s.heap p (.tup xs) from I.hok p _ h1)
    exact ⟨[], .tuple e1 e2 e3 (by simpa using readsFlat rv h2), by simp⟩
  | @lst p xs h1 h2 h3 =>
    cases (show u = Value.ref p from r)
    obtain ⟨_, its, n, rv, e1⟩ := (show ObjOk X.prog X.w H s.heap p (.lst xs) from I.hok p _ h1)
    exact ⟨_, .list e1 rfl rfl (by simpa using readsFlat rv h3), by simpa using Ne.symm h2⟩
  | @d0 p h1 =>
    cases (show u = Value.ref p from r)
    obtain ⟨_, hs, vs, kv, hd⟩ := (show ObjOk X.prog X.w H s.heap p (.dK []) from I.hok p _ h1)
    cases kv
    obtain ⟨o, es, ep, e1, ⟨e2, _⟩, e3, _, e4, _⟩ := hd
    have e5 : es.toList = [] := by
      generalize es.toList = l at e4
      cases l with
      | nil => rfl
      | cons a b => cases e4
    exact ⟨_, .dict (as := []) (bs := []) e1 e2 e3 (by rw [e5]; exact .nil) (by rw [e5]; exact .nil), by simpa using Ne.symm (beq_eq_false_iff_ne.mp hs)⟩
  | @d1 p k v h1 =>
    cases (show u = Value.ref p from r)
    obtain ⟨_, hs, vs, kv, hd⟩ := (show ObjOk X.prog X.w H s.heap p (.dK [(.inr k, .str v)]) from I.hok p _ h1)
    obtain ⟨o, es, ep, e1, ⟨e2, _⟩, e3, _, e4, _⟩ := hd
    obtain ⟨k0, v0, rfl, hk0, rv⟩ : ∃ k0 v0, vs = [(k0, v0)] ∧ k0 = .inr k ∧ L2.RelV (.str v) v0 := by
      cases kv with
      | cons rv kv' => cases kv'; exact ⟨_, _, rfl, rv.1.symm, rv.2⟩
    subst hk0
    obtain ⟨e0, he, hk, hv⟩ : ∃ e0 : DictEntry, es.toList = [e0] ∧ (mixKind X.prog X.w).is (.inr k) e0.key = true ∧ e0.val = v0 := by
      generalize es.toList = l at e4
      cases l with
      | nil => cases e4
      | cons e l =>
        generalize hz : [((Sum.inr k : Key), v0)] = z at e4
        cases e4 with
        | cons h1 h2 h3 =>
          cases hz
          cases h3
          exact ⟨e, rfl, h1, h2⟩
    obtain ⟨t1, hk'⟩ : ∃ t1, e0.key = .str k t1 := by
      change keyIs (.inr k) e0.key = true at hk
      rcases keyIs_shape hk with ⟨i, t, z, _⟩ | ⟨x, t, z, z2⟩
      · cases z
      · cases z; exact ⟨t, z2⟩
    obtain ⟨t2, rfl⟩ := rv
    exact ⟨_, .dict (as := []) (bs := []) e1 e2 e3 (by rw [he]; show ReadsAll _ [e0.key] [.str k] []; rw [hk']; exact .cons (.str k t1) .nil) (by rw [he]; show ReadsAll _ [e0.val] [.str v] []; rw [hv]; exact .cons (.str v t2) .nil), by simpa using Ne.symm (beq_eq_false_iff_ne.mp hs)⟩
inductive VdAll (H : Hp) : List V → List PyData → Prop
  | nil : VdAll H [] []
  | cons {v : V} {d : PyData} {vs : List V} {ds : List PyData} : Vd H v d → VdAll H vs ds → VdAll H (v :: vs) (d :: ds)
theorem VdAll.exN {H H' : Hp} {vs : List V} {ds : List PyData} (h : VdAll H vs ds) (e : ExtN H H') : VdAll H' vs ds := by
  induction h with
  | nil => exact .nil
  | cons a _ b => exact .cons (a.exN e) b
theorem VdAll.reads {X : Cx} {pins : List (Addr × Obj)} {σ : L2.St} {H : Hp} {s : Shared} (I : Inv X pins σ H s) : ∀ {vs : List V} {ds : List PyData} {us : List Value}, VdAll H vs ds → Vals vs us → ∃ as, ReadsAll s.heap us ds as ∧ sysModules ∉ as
  | _, _, _, .nil, r => by cases r; exact ⟨[], .nil, by simp⟩
  | _, _, _, .cons a b, r => by
    cases r with
    | cons r1 r2 =>
      obtain ⟨as, h1, h2⟩ := a.reads I r1
      obtain ⟨bs, h3, h4⟩ := VdAll.reads I b r2
      exact ⟨_, .cons h1 h3, fun z => (List.mem_append.mp z).elim h2 h4⟩
def rReprL : List V → Hp → VK → Prop := fun xs H Q => ∃ l vs ds, xs = [.ref l] ∧ H l = some (.lst vs) ∧ l ≠ sysModules ∧ VdAll H vs ds ∧ (PyData.list ds).showable = true ∧ (PyData.list ds).depth ≤ 60 ∧ (PyData.list ds).shown.length ≤ sizeLine ∧ Q (.str (PyData.list ds).shown) H
theorem callReprL {X : Cx} (hg : X.A.guards = some []) (hu : X.A.units + 64 < cLine) : CallR X (.builtin "repr") rReprL := by
  intro pins s σ H xs us Q I r h
  obtain ⟨l, vs, ds, rfl, hl, nl, hv, h1, h2, h3, q⟩ := h
  obtain ⟨u, rfl, rx⟩ := vals1 r
  cases (show u = Value.ref l from rx)
  obtain ⟨_, its, n, rv, e1⟩ := (show ObjOk X.prog X.w H s.heap l (.lst vs) from I.hok l _ hl)
  obtain ⟨as, ra, na⟩ := hv.reads I rv
  have rd : Reads s.heap (.ref l) (.list ds) (l :: as) := .list e1 rfl rfl (by simpa using ra)
  refine repr_of_reads' rd h1 (fun _ z => (List.mem_cons.mp z).elim (fun z => nl z.symm) na) hg (by omega) (fun _ _ e => e) (fun h' t tk k => ?_) h3
  exact ⟨.str _, H, I.kept k, ⟨t, rfl⟩, q⟩
end L3
end
section
namespace L3
open PySem PySem.Spec PyProof.Rows L2 LamX
section
variable {σ : L2.St} {H : Hp} {te : TE} {Q : VK} {K : PySem.W.Frag}
/-- [i for i in range(N) if t] -/
theorem lcFilter {N j : Nat} {tt : TT} {vs : List Nat} (b : Nat → Bool) (hN : N < sizeLine) (hw : ∀ x, wipe ((wipe σ vs).set j (some x)) vs = wipe σ vs)
    (ht : ∀ (i : Nat) (H1 : Hp) (R : Bool → Hp → Prop), i < N → Ex H H1 → (∀ H2, Ex H1 H2 → R (b i) H2) → tt ((wipe σ vs).set j (some (.int (0 + i)))) H1 R)
    (he : ∀ (i : Nat) (H1 : Hp) (R : VK), R (.int (0 + i)) H1 → te ((wipe σ vs).set j (some (.int (0 + i)))) H1 R)
    (k : ∀ D H2, H D = none → Ex H H2 → H2 D = some (.lst (((List.range N).filter b).map fun (i : Nat) => V.int (0 + (i : Int)))) → Q (.ref D) H2) : LC (Itr 0 N) (gName j) tt te vs σ H Q := by
  intro D hD
  refine lc_range (fun i H1 => Ex H H1 ∧ H1 D = some (.lst (((List.range i).filter b).map fun (i : Nat) => V.int (0 + (i : Int))))) ⟨ex_new hD, upd_same⟩ (fun i H1 hi ⟨e, h1⟩ => ?_) fun H1 ⟨e, h1⟩ => k D H1 hD e h1
  refine ⟨hw _, ht i H1 _ hi e fun H2 e2 => ?_⟩
  have h2 := e2 _ _ h1
  have er : List.range (i + 1) = List.range i ++ [i] := List.range_succ
  cases hb : b i with
  | true =>
    refine iteT (he i H2 _ ⟨_, h2, ?_, fun c o hc => ?_, ?_⟩)
    · rw [List.length_map]
      exact Nat.lt_of_le_of_lt (Nat.le_trans (List.length_filter_le _ _) (by rw [List.length_range]; omega)) hN
    · rw [upd_ne (ne_of_none hc hD)]; exact e2 _ _ (e _ _ hc)
    · rw [upd_same, er, List.filter_append, List.map_append]
      simp [hb]
  | false =>
    refine iteF ⟨e.trans e2, ?_⟩
    rw [er, List.filter_append]
    simpa [hb] using h2
/-! ## rows of errors and what is told of them -/
def excB (K : PySem.W.Frag) (C : Addr) : Bool := decide (PySem.W.findIn K (.ref C) "__getattribute__" = some (some (.builtin "BaseException.__getattribute__"))) && (decide (PySem.W.findIn K (.ref C) "__getattr__" = some none) && (decide (PySem.W.subIn K (.ref C) (.type "BaseException") = some true) && (PySem.W.hasDictIn K C &&
  (decide (PySem.W.findIn K (.ref C) "__class__" = some (some (.builtin "object.__class__"))) && decide (PySem.W.mroIn K C (.type "object") = some true)))))
theorem excB_ok {K : PySem.W.Frag} {C : Addr} (yb : PySem.W.specialIn K (.builtin "object.__class__") "__get__" = some (some (.builtin "getset_descriptor.__get__"))) (yc : PySem.W.takesIn K (.builtin "object.__class__") = some true) (h : excB K C = true) : ExcC K C ∧ XfC K C := by
  unfold excB at h
  simp only [Bool.and_eq_true, decide_eq_true_eq] at h
  obtain ⟨h1, h2, h3, h4, h5, h6⟩ := h
  exact ⟨⟨h1, h2, h3, h4, h5, yb, yc, h6⟩, ⟨h1, h2, h3, h4⟩⟩
def spTell (K : PySem.W.Frag) (gs : List Str) : Sp := fun xs H Q _ => ∃ a C fs vs, xs = [.ref a] ∧ ErAt H a C fs ∧ XfC K C ∧ (∀ g ∈ gs, PySem.W.findIn K (.ref C) g = some none) ∧ gs.map (fun g => fs.lookup g) = vs.map some ∧ vs.length ≤ 1000 ∧
  ∀ p H', p ≠ sysModules → H p = none → Ex H H' → H' p = some (.lst vs) → Q (.ref p) H'
def spKind (K : PySem.W.Frag) (C : Addr) : Sp := fun xs H Q _ => ∃ a D fs b, xs = [.ref a] ∧ ErAt H a D fs ∧ ExcC K D ∧ PySem.W.kitOne K (.ref D) (.ref C) = some b ∧ Q (.bl b) H
theorem s_tell1 {v : V} {g : Str} {E : XK} (h : spTell K [g] [v] H Q E) : tLstN (tCons (tXfE K g (tVar 0)) tNil) [some v] H Q := by
  obtain ⟨a, C, fs, vs, ⟨⟩, ea, xf, hno, hm, hl, k⟩ := h
  have hlen : vs.length = 1 := by simpa using (congrArg List.length hm).symm
  match vs, hm, hlen, k with
  | [x], hm, _, k =>
    refine ⟨_, rfl, a, C, fs, x, rfl, ea, xf, hno _ (by simp), by simpa using hm, (show 1 ≤ sizeLine by decide), fun p hp np => ?_⟩
    exact k p _ np hp (ex_new hp) upd_same
theorem s_tell2 {v : V} {g g2 : Str} {E : XK} (h : spTell K [g, g2] [v] H Q E) : tLstN (tCons (tXfE K g (tVar 0)) (tCons (tXfE K g2 (tVar 0)) tNil)) [some v] H Q := by
  obtain ⟨a, C, fs, vs, ⟨⟩, ea, xf, hno, hm, hl, k⟩ := h
  have hlen : vs.length = 2 := by simpa using (congrArg List.length hm).symm
  match vs, hm, hlen, k with
  | [x, y], hm, _, k =>
    have hm' : fs.lookup g = some x ∧ fs.lookup g2 = some y := by simpa using hm
    refine ⟨_, rfl, a, C, fs, x, rfl, ea, xf, hno _ (by simp), hm'.1, _, rfl, a, C, fs, y, rfl, ea, xf, hno _ (by simp), hm'.2, (show 2 ≤ sizeLine by decide), fun p hp np => ?_⟩
    exact k p _ np hp (ex_new hp) upd_same
theorem s_tell0 {v : V} {E : XK} (h : spTell K [] [v] H Q E) : tLstN tNil [some v] H Q := by
  obtain ⟨a, C, fs, vs, ⟨⟩, ea, xf, hno, hm, hl, k⟩ := h
  match vs, hm, k with
  | [], hm, k => exact ⟨(show 0 ≤ sizeLine by decide), fun p hp np => k p _ np hp (ex_new hp) upd_same⟩
theorem s_kind {v : V} {C : Addr} {E : XK} (h : spKind K C [v] H Q E) : tCB (rIsiE K) (tCons (tVar 0) (tCons (tC (.ref C)) tNil)) [some v] H Q := by
  obtain ⟨a, D, fs, b, ⟨⟩, ea, xc, hk, q⟩ := h
  exact ⟨_, rfl, .inr (.inl ⟨a, D, .ref C, .ref C, fs, b, rfl, .own C, ea, xc, hk, q⟩)⟩
/-- one row: an error, what tells it, what is due, its number -/
def Row (Lm : Hp → Addr → Sp → Prop) (K : PySem.W.Frag) (cs : List Addr) (v1 v2 : V) (H : Hp) (v : V) : Prop := ∃ t e f l j fs gs vs, v = .ref t ∧ H t = some (.tup [.ref e, .ref f, .ref l, .int ((j : Nat) : Int)]) ∧ j < 26 ∧ ErAt H e (cs.getD j 0) fs ∧ Lm H f (spTell K gs) ∧ H l = some (.lst vs) ∧ l ≠ sysModules ∧
  (∀ g ∈ gs, PySem.W.findIn K (.ref (cs.getD j 0)) g = some none) ∧ gs.map (fun g => fs.lookup g) = vs.map some ∧ (∀ x ∈ vs, x = v1 ∨ x = v2) ∧ vs.length ≤ 2
theorem Row.exN {Lm : Hp → Addr → Sp → Prop} (hL : ∀ H H' f sp, Lm H f sp → ExtN H H' → Lm H' f sp) {cs : List Addr} {v1 v2 : V} {H H' : Hp} {v : V} (h : Row Lm K cs v1 v2 H v) (e : ExtN H H') : Row Lm K cs v1 v2 H' v := by
  obtain ⟨t, e0, f, l, j, fs, gs, vs, h1, h2, h3, h4, h5, h6, h7⟩ := h
  exact ⟨t, e0, f, l, j, fs, gs, vs, h1, e _ _ h2 (fun _ z => nomatch z), h3, h4.exN e, hL _ _ _ _ h5 e, e _ _ h6 (fun _ z => nomatch z), h7⟩
theorem s_row {Lm : Hp → Addr → Sp → Prop} (hL : ∀ H H' f sp, Lm H f sp → ExtN H H' → Lm H' f sp) {Tt : List (Addr × Str)} {cs : List Addr} {v1 v2 : V} {t1 t2 t3 : TE} {tr : TA} {QL : List V → Hp → Prop} {j : Nat} (fs : List (Str × V)) (gs : List Str) (vs : List V) (hj : j < 26)
    (hno : ∀ g ∈ gs, PySem.W.findIn K (.ref (cs.getD j 0)) g = some none) (hm : gs.map (fun g => fs.lookup g) = vs.map some) (h12 : ∀ x ∈ vs, x = v1 ∨ x = v2) (h2 : vs.length ≤ 2) (ht : Tabs Tt H)
    (hE : ∀ (H : Hp) (R : VK), (∀ a H', Ex H H' → ErAt H' a (cs.getD j 0) fs → R (.ref a) H') → t1 σ H R)
    (hF : ∀ (H : Hp) (R : VK), Tabs Tt H → (∀ f H', ExtN H H' → Tabs Tt H' → Lm H' f (spTell K gs) → R (.ref f) H') → t2 σ H R)
    (hD : ∀ (H : Hp) (R : VK), (∀ l H', Ex H H' → H' l = some (.lst vs) → l ≠ sysModules → R (.ref l) H') → t3 σ H R)
    (k : ∀ t H', ExtN H H' → Tabs Tt H' → Row Lm K cs v1 v2 H' (.ref t) → tr σ H' fun xs H2 => QL (.ref t :: xs) H2) :
    tCons (tTup (tCons t1 (tCons t2 (tCons t3 (tCons (tC (.int ((j : Nat) : Int))) tNil))))) tr σ H QL := by
  refine hE H _ fun a H1 e1 ea => hF H1 _ (ht.ext e1) fun f H2 e2 t2 lf => hD H2 _ fun l H3 e3 hl nl => ⟨(show 4 ≤ sizeLine by decide), fun t htn => ?_⟩
  have e4 : Ex H3 (upd H3 t (.tup [.ref a, .ref f, .ref l, .int ((j : Nat) : Int)])) := ex_new htn
  have e14 : ExtN H1 (upd H3 t (.tup [.ref a, .ref f, .ref l, .int ((j : Nat) : Int)])) := e2.trans (e3.trans e4).n
  exact k t _ (e1.n.trans e14) ((t2.ext e3).ext e4) ⟨t, a, f, l, j, fs, gs, vs, rfl, upd_same, hj, ea.exN e14, hL _ _ _ _ lf (e3.trans e4).n, e4 _ _ hl, nl, hno, hm, h12, h2⟩
theorem mkE1 {C : Addr} {g : Str} {v : V} {ta tk : TA} {gV : List V → List V → List V} {n m : Nat} {R : VK} (hz : n ≤ 1000)
    (hr : ∀ (R' : List V → List V → Hp → Prop), (∀ vs zs, vs.length = n → zs.length = m → (∀ a, gV (.ref a :: vs) zs = [.ref a, v]) → R' vs zs H) → ta σ H fun vs H1 => tk σ H1 fun zs H2 => R' vs zs H2)
    (h : ∀ a H', Ex H H' → ErAt H' a C [(g, v)] → R (.ref a) H') : tErV C n m (spErr1 C g) gV ta tk σ H R := by
  refine hr _ fun vs zs l1 l2 hg => ⟨l1, l2, by omega, fun a ha => ?_⟩
  rw [hg]
  refine ⟨a, v, rfl, upd_same, fun dx h1 h2 => ⟨rfl, h a _ (fun b o hb => ?_) (.inl ⟨dx, upd_same, ?_⟩)⟩⟩
  · have nb : b ≠ a := ne_of_none hb ha
    have nd : b ≠ dx := by rw [upd_ne h2] at h1; exact ne_of_none hb h1
    rw [upd_ne nb, upd_ne nd, upd_ne nb]; exact hb
  · rw [upd_ne h2, upd_same]
theorem mkE2 {C : Addr} {g g2 : Str} {v v' : V} {ta tk : TA} {gV : List V → List V → List V} {n m : Nat} {R : VK} (hz : n ≤ 1000)
    (hr : ∀ (R' : List V → List V → Hp → Prop), (∀ vs zs, vs.length = n → zs.length = m → (∀ a, gV (.ref a :: vs) zs = [.ref a, v, v']) → R' vs zs H) → ta σ H fun vs H1 => tk σ H1 fun zs H2 => R' vs zs H2)
    (h : ∀ a H', Ex H H' → ErAt H' a C [(g2, v'), (g, v)] → R (.ref a) H') : tErV C n m (spErr2 C g g2) gV ta tk σ H R := by
  refine hr _ fun vs zs l1 l2 hg => ⟨l1, l2, by omega, fun a ha => ?_⟩
  rw [hg]
  refine ⟨a, v, v', rfl, upd_same, fun dx h1 h2 => ⟨rfl, h a _ (fun b o hb => ?_) (.inl ⟨dx, ?_, upd_same⟩)⟩⟩
  · have nb : b ≠ a := ne_of_none hb ha
    have nd : b ≠ dx := by rw [upd_ne h2] at h1; exact ne_of_none hb h1
    rw [upd_ne nd, upd_ne nb, upd_ne nd, upd_ne nb]; exact hb
  · rw [upd_ne (Ne.symm h2), upd_same]
def spErr0 (C : Addr) : Sp := fun vs H Q _ => ∃ a, vs = [.ref a] ∧ H a = some (exo a C none) ∧ Q .non H
theorem mkE0 {C : Addr} {gV : List V → List V → List V} {R : VK} (hg : ∀ a, gV [.ref a] [] = [.ref a]) (h : ∀ a H', Ex H H' → ErAt H' a C [] → R (.ref a) H') : tErV C 0 0 (spErr0 C) gV tNil tNil σ H R := by
  refine ⟨rfl, rfl, by simp, fun a ha => ?_⟩
  rw [hg]
  exact ⟨a, rfl, upd_same, rfl, h a _ (ex_new ha) (.inr ⟨rfl, upd_same⟩)⟩
end
/-- an error without fields -/
theorem okErr0 {P : Program} {w : World} {K : PySem.W.Frag} {mg : Str → Option Value} {base : Heap} {CX : CXT} {C f cda cc : Addr} {qual msg : Str} {params : Arguments} {scope : Scope} {kV doc pm ct oc : Value} {an od : Option Addr} {osl : Array (Option Value)}
    {p0 p1 p2 p3 p4 p5 : Pos} {j : Nat} {ar : Arg} {body : List Stmt} (hbd : body = [stSup msg j p0 p1 p2 p3 p4 p5])
    (lk : K.lookup f = some ⟨oc, od, .func (PySem.W.fnX "__init__" qual params body scope [("__class__", cc)] .none kV doc pm an (.ref cda) ct), osl⟩) (hcd : PySem.W.codeIn K (.ref cda) qual = true)
    (T : SupF P K mg C f cda cc scope) (S : NdefX.NScope ["self", "__class__"] ["self"] ["__class__"] scope) (hp : (params.posonlyargs ++ params.args).head? = some ar) (har : ar.arg = "self")
    (hev : ∀ env : Env, env.scope = scope → ∃ pl, eval (.Call (.Attribute (.Call (.Name "super" p0) [] [] p1) "__init__" p2) [.Constant (.str msg) j p3] [] p4) env = (do
      let ov ← attributeBase (.Call (.Name "super" p0) [] [] p1) "__init__" env (eval (.Call (.Name "super" p0) [] [] p1) env)
      standAt p2.atName
      let (f, first) ← holding [ov] (getMethod ov "__init__" pl)
      callWith p4 f first (backTo p4 (starEach [.Constant (.str msg) j p3] env)) [])) :
    FnOk P w K mg base CX 1 f (PySem.W.fnX "__init__" qual params body scope [("__class__", cc)] .none kV doc pm an (.ref cda) ct) ["self"] (spErr0 C) := by
  refine okSup hbd lk hcd T S hp (by rw [har]; rfl) (by rw [har]; rfl) (by rw [har]; exact S.par _ (by simp)) hev (fun vs H Q E h => ?_) (fun A outer s H vs Q E hr h => ?_)
  · obtain ⟨a, rfl, _⟩ := h; rfl
  · obtain ⟨a, rfl, ha, k⟩ := h
    exact ⟨a, _, rfl, ha, _, pss_nil, k⟩
/-- lists of values shown -/
structure VOk (x : PyData) : Prop where
  s : x.showable = true
  d : x.depth ≤ 3
  l : x.shown.length ≤ 1000
theorem shown_small {ds : List PyData} (h : ∀ d ∈ ds, VOk d) (hl : ds.length ≤ 10) : (PyData.list ds).showable = true ∧ (PyData.list ds).depth ≤ 60 ∧ (PyData.list ds).shown.length ≤ sizeLine := by
  have a1 : PyData.showableAll ds = true ∧ PyData.depthAll ds ≤ 3 ∧ ((PyData.shownAll ds).map fun t => t.length + 2).sum ≤ 1002 * ds.length := by
    clear hl
    induction ds with
    | nil => exact ⟨rfl, Nat.zero_le _, Nat.zero_le _⟩
    | cons d r ih =>
      obtain ⟨i1, i2, i3⟩ := ih fun x hx => h x (List.mem_cons_of_mem _ hx)
      have hd := h d List.mem_cons_self
      refine ⟨?_, ?_, ?_⟩
      · unfold PyData.showableAll; rw [hd.s, i1]; rfl
      · unfold PyData.depthAll; exact Nat.max_le.mpr ⟨hd.d, i2⟩
      · unfold PyData.shownAll
        rw [List.map_cons, List.sum_cons, List.length_cons]
        have := hd.l
        omega
  refine ⟨a1.1, ?_, ?_⟩
  · unfold PyData.depth; have := a1.2.1; omega
  · unfold PyData.shown
    refine Nat.le_trans (listText_ub _) (Nat.le_trans (Nat.add_le_add_left a1.2.2 2) ?_)
    refine Nat.le_trans (show 2 + 1002 * ds.length ≤ 100000 by omega) (by decide)
theorem s_reprL {H : Hp} {Q : VK} {l : Addr} {vs : List V} {ds : List PyData} (hl : H l = some (.lst vs)) (nl : l ≠ sysModules) (hv : VdAll H vs ds) (ho : ∀ d ∈ ds, VOk d) (hz : ds.length ≤ 10) (h : Q (.str (PyData.list ds).shown) H) : rReprL [.ref l] H Q := by
  obtain ⟨h1, h2, h3⟩ := shown_small ho hz
  exact ⟨l, vs, ds, rfl, hl, nl, hv, h1, h2, h3, h⟩
section
variable {σ : L2.St} {H : Hp} {Q : VK} {K : PySem.W.Frag}
theorem KX.isiE {X : Cx} (hK : X.K = K) : CallR X (.builtin "isinstance") (rIsiE K) := by subst hK; exact callIsiE
theorem KX.xfE {X : Cx} {e : Expr} {te : TE} {pos : Pos} {n : Str} (hK : X.K = K) (he : PE X e te) (hb : attributeBase e n X.env (eval e X.env) = eval e X.env) : PE X (.Attribute e n pos) (tXfE K n te) := by subst hK; exact pe_xfE he hb
theorem s_lamF {T : List (Addr × Str)} {q : Str} {params : Arguments} {body : Expr} {scope : Scope} (ht : Tabs T H) (h : ∀ f c' H1, H f = none → ExtN H H1 → Tabs T H1 → H1 f = some (LamF f q params body scope c') → H1 c' = some (CodeO c' q) → Q (.ref f) H1) : tLamF T q params body scope σ H Q := ⟨ht, h⟩
theorem s_lstN {t : TA} (h : t σ H fun xs H1 => xs.length ≤ sizeLine ∧ ∀ p, H1 p = none → p ≠ sysModules → ap Q (.ref p) (upd H1 p (.lst xs))) : tLstN t σ H Q := h
theorem s_newN {o : HO} {n : Nat} (hz : n ≤ sizeLine) (h : ∀ p H2, H p = none → p ≠ sysModules → Ex H H2 → H2 p = some o → Q (.ref p) H2) : n ≤ sizeLine ∧ ∀ p, H p = none → p ≠ sysModules → ap Q (.ref p) (upd H p o) :=
  ⟨hz, fun p hp np => h p _ hp np (ex_new hp) upd_same⟩
theorem s_callF {P : Program} {w : World} {mg : Str → Option Value} {base : Heap} {k : Nat} {tf : TE} {ta : TA} (h : tf σ H fun fv H1 => ∃ (f : Addr) (sp : Sp), fv = .ref f ∧ LamAt P w K mg base k H1 f sp ∧ ta σ H1 fun vs H2 => ∃ v, vs = [v] ∧ LamAt P w K mg base k H2 f sp ∧ sp [v] H2 Q (fun _ _ _ => False)) : tCallF P w K mg base k tf ta σ H Q := h
theorem vdAll_of {v1 v2 : V} {d1 d2 : PyData} (h1 : Vd H v1 d1) (h2 : Vd H v2 d2) : ∀ {vs : List V}, (∀ x ∈ vs, x = v1 ∨ x = v2) → ∃ ds, VdAll H vs ds ∧ ds.length = vs.length ∧ ∀ d ∈ ds, d = d1 ∨ d = d2
  | [], _ => ⟨[], .nil, rfl, fun _ h => nomatch h⟩
  | x :: r, h => by
    obtain ⟨ds, a, b, c⟩ := vdAll_of h1 h2 fun y hy => h y (List.mem_cons_of_mem _ hy)
    rcases h x List.mem_cons_self with rfl | rfl
    · exact ⟨d1 :: ds, .cons h1 a, by simp [b], fun d hd => (List.mem_cons.mp hd).elim (fun z => .inl z) (c d)⟩
    · exact ⟨d2 :: ds, .cons h2 a, by simp [b], fun d hd => (List.mem_cons.mp hd).elim (fun z => .inr z) (c d)⟩
theorem filt26 : ∀ j, j < 26 → (List.range 26).filter (fun i => decide (j = i)) = [j] := by decide
def KindsAt (Lm : Hp → Addr → Sp → Prop) (K : PySem.W.Frag) (cs : List Addr) (H : Hp) (l : Addr) : Prop := ∃ xs, H l = some (.lst xs) ∧ xs.length = 26 ∧ ∀ j, j < 26 → ∃ f, xs[j]? = some (.ref f) ∧ Lm H f (spKind K (cs.getD j 0))
theorem KindsAt.exN {Lm : Hp → Addr → Sp → Prop} (hL : ∀ H H' f sp, Lm H f sp → ExtN H H' → Lm H' f sp) {cs : List Addr} {H H' : Hp} {l : Addr} (h : KindsAt Lm K cs H l) (e : ExtN H H') : KindsAt Lm K cs H' l := by
  obtain ⟨xs, h1, h2, h3⟩ := h
  exact ⟨xs, e _ _ h1 (fun _ z => nomatch z), h2, fun j hj => (h3 j hj).imp fun f h => ⟨h.1, hL _ _ _ _ h.2 e⟩⟩
theorem KX.callF {X : Cx} {P : Program} {w : World} {mg : Str → Option Value} {base : Heap} {k j : Nat} {fe e : Expr} {tf : TE} {ta : TA} {pos : Pos} (hr : Room j X.A) (hf : PE X fe tf) (ha : PA X [e] ta) (hk : k + 1 ≤ j := by decide)
    (hP : X.prog = P := by rfl) (hw : X.w = w := by rfl) (hK : X.K = K := by rfl) (hmg : X.mg = mg := by rfl) (hb : X.base = base := by rfl)
    (harm : eval (.Call fe [e] [] pos) X.env = (do callWith pos (← eval fe X.env) [] (backTo pos (starEach [e] X.env)) (backToKw pos (keywordEach [] X.env))) := by rfl)
    (he : starEach [e] X.env = (false, eval e X.env) :: starEach [] X.env := by rfl) (hpl : (backTo pos (starEach [] X.env)).any (·.1) = false := by rfl) :
    PE X (.Call fe [e] [] pos) (tCallF P w K mg base k tf ta) := by
  subst hP hw hK hmg hb
  exact pe_callF hr hf ha hk harm he hpl
end
theorem getD_mem' {l : List Addr} {j : Nat} (h : j < l.length) : l.getD j 0 ∈ l := by
  simp [List.getD, List.getElem?_eq_getElem h]
theorem allR {p : Nat → Bool} {n : Nat} (h : (List.range n).all p = true) : ∀ j, j < n → p j = true := fun j hj => List.all_eq_true.mp h j (List.mem_range.mpr hj)
end L3
end
section
namespace L3
open PySem PySem.Spec PyProof.Rows L2 LamX
/-! ## == and != of values of any kind -/
inductive Pq (K : PySem.W.Frag) (H : Hp) : V → V → Bool → Prop
  | dat {x y : V} {d e : PyData} : Dp K H x d → Dp K H y e → SeqAt.shaped d = true → SeqAt.shaped e = true → Pq K H x y (PyData.eqv d e)
  | d0 {p : Addr} : H p = some (.dK []) → Pq K H (.ref p) (.ref p) true
  | d1 {p : Addr} {k v : Str} : H p = some (.dK [(.inr k, .str v)]) → Pq K H (.ref p) (.ref p) true
def rPq (K : PySem.W.Frag) : R2 := fun x y H Q => ∃ b, Pq K H x y b ∧ Q (.bl b) H
theorem opPq {X : Cx} (hu : X.A.units + 64 < cLine) : OpR X (compareOp .Eq) (rPq X.K) := by
  intro pins s σ H x y v u Q I rx ry h
  obtain ⟨b, h, q⟩ := h
  cases h with
  | dat h1 h2 h3 h4 => exact op_eqD hu pins s σ H x y v u Q I rx ry ⟨_, _, h1, h2, h3, h4, q⟩
  | @d0 p h => exact op_eqV hu pins s σ H _ _ v u Q I rx ry ⟨1, by decide, .inr ⟨p, p, [], [], rfl, rfl, h, h, rfl, fun _ z => nomatch z⟩, q⟩
  | @d1 p k z h =>
    refine op_eqV hu pins s σ H _ _ v u Q I rx ry ⟨1, by decide, .inr ⟨p, p, _, _, rfl, rfl, h, h, rfl, fun c hc => ?_⟩, q⟩
    rw [List.mem_singleton.mp hc]
    exact ⟨.str z, by simp [valV], .inl ⟨rfl, rfl⟩⟩
def rNq (K : PySem.W.Frag) : R2 := fun x y H Q => ∃ b, Pq K H x y b ∧ Q (.bl (!b)) H
theorem opNq {X : Cx} (hu : X.A.units + 64 < cLine) : OpR X (compareOp .NotEq) (rNq X.K) := by
  intro pins s σ H x y v u Q I rx ry h
  obtain ⟨b, h, q⟩ := h
  have dc : ∀ (p : Addr) (kvs : List (Key × V)), H p = some (.dK kvs) → (∀ vs, KV kvs vs → PySem.W.KeqHits X.A.in1 s vs vs true) → Q (.bl (!true)) H → wpAny (model X.prog X.w) X.A (compareOp .NotEq (.ref p) (.ref p)) (EP X pins σ Q) X.xe s := fun p kvs h hk q => by
    obtain ⟨_, ya, va, ra, da⟩ := (show ObjOk X.prog X.w H s.heap p (.dK kvs) from I.hok p _ h)
    refine PySem.W.keq_ne (knd := mixKind X.prog X.w) (r := true) ya ya da da (by omega) (fun _ => hk va ra) ⟨.bl false, H, I, ?_, q⟩
    show Value.bool (!(va.length == va.length && true)) = Value.bool false
    simp
  cases h with
  | dat h1 h2 h3 h4 => exact op_neD hu pins s σ H x y v u Q I rx ry ⟨_, _, h1, h2, h3, h4, q⟩
  | @d0 p h =>
    cases (show v = Value.ref p from rx)
    cases (show u = Value.ref p from ry)
    exact dc p _ h (fun vs kv => by cases kv; exact .nil) q
  | @d1 p k z h =>
    cases (show v = Value.ref p from rx)
    cases (show u = Value.ref p from ry)
    refine dc p _ h (fun vs kv => ?_) q
    cases kv with
    | cons rv kv' =>
      cases kv'
      rename_i y
      obtain ⟨y1, y2⟩ := y
      exact PySem.W.KeqHits.hit (e := true) (b := true) (by simp [valueAt]) (SeqAt.EqAt.same _) .nil
/-- tuples of such values -/
inductive PqAll (K : PySem.W.Frag) (H : Hp) : List V → List V → List Bool → Prop
  | nil : PqAll K H [] [] []
  | cons {x y : V} {b : Bool} {xs ys : List V} {bs : List Bool} : Pq K H x y b → PqAll K H xs ys bs → PqAll K H (x :: xs) (y :: ys) (b :: bs)
def rTq (K : PySem.W.Frag) : R2 := fun x y H Q => ∃ p q xs ys bs, x = .ref p ∧ y = .ref q ∧ H p = some (.tup xs) ∧ H q = some (.tup ys) ∧ PqAll K H xs ys bs ∧ Q (.bl (bs.all id)) H
theorem Pq.eqAt {X : Cx} {pins : List (Addr × Obj)} {σ : L2.St} {H : Hp} {s : Shared} {x y : V} {b : Bool} {v u : Value} (I : Inv X pins σ H s) (hu : X.A.units + 66 < cLine) (h : Pq X.K H x y b) (rx : RelV x v) (ry : RelV y u) : SeqAt.EqAt X.A.in1 s v u b := by
  cases h with
  | dat h1 h2 h3 h4 =>
    obtain ⟨as, r1⟩ := Dp.reads I _ x v h1 rx
    obtain ⟨bs, r2⟩ := Dp.reads I _ y u h2 ry
    exact PySem.W.keq_at r1 r2 h3 h4 (by show X.A.units + 1 + 64 < cLine; omega)
  | @d0 p h =>
    cases (show v = Value.ref p from rx)
    cases (show u = Value.ref p from ry)
    exact SeqAt.EqAt.same _
  | @d1 p k z h =>
    cases (show v = Value.ref p from rx)
    cases (show u = Value.ref p from ry)
    exact SeqAt.EqAt.same _
theorem PqAll.eqAt {X : Cx} {pins : List (Addr × Obj)} {σ : L2.St} {H : Hp} {s : Shared} (I : Inv X pins σ H s) (hu : X.A.units + 66 < cLine) : ∀ {xs ys : List V} {bs : List Bool} {us ws : List Value}, PqAll X.K H xs ys bs → Vals xs us → Vals ys ws → us.length = bs.length ∧ ws.length = bs.length ∧
    ∀ j (h1 : j < us.length) (h2 : j < ws.length), SeqAt.EqAt X.A.in1 s us[j] ws[j] (bs.getD j true)
  | _, _, _, _, _, .nil, r1, r2 => by cases r1; cases r2; exact ⟨rfl, rfl, fun j h1 => absurd h1 (Nat.not_lt_zero _)⟩
  | _, _, _, _, _, .cons a b, r1, r2 => by
    cases r1 with
    | cons a1 b1 =>
      cases r2 with
      | cons a2 b2 =>
        obtain ⟨l1, l2, k⟩ := PqAll.eqAt I hu b b1 b2
        refine ⟨by simp [l1], by simp [l2], fun j h1 h2 => ?_⟩
        cases j with
        | zero => exact a.eqAt I hu a1 a2
        | succ j => exact k j (Nat.lt_of_succ_lt_succ h1) (Nat.lt_of_succ_lt_succ h2)
theorem all_range : ∀ bs : List Bool, (List.range bs.length).all (fun j => bs.getD j true) = bs.all id := fun bs => by
  induction bs with
  | nil => rfl
  | cons b r ih =>
    rw [List.length_cons, List.range_succ_eq_map, List.all_cons, List.all_map]
    show (b && (List.range r.length).all fun j => r.getD j true) = _
    rw [ih]; rfl
theorem opTq {X : Cx} (hu : X.A.units + 66 < cLine) : OpR X (compareOp .Eq) (rTq X.K) := by
  intro pins s σ H x y v u Q I rx ry h
  obtain ⟨p, q, xs, ys, bs, rfl, rfl, hp, hq, ha, k⟩ := h
  cases (show v = Value.ref p from rx)
  cases (show u = Value.ref q from ry)
  obtain ⟨_, us, r1, t1⟩ := (show ObjOk X.prog X.w H s.heap p (.tup xs) from I.hok p _ hp)
  obtain ⟨_, ws, r2, t2⟩ := (show ObjOk X.prog X.w H s.heap q (.tup ys) from I.hok q _ hq)
  obtain ⟨l1, l2, ke⟩ := ha.eqAt I hu r1 r2
  refine SeqAt.eq_tupleAt (e := fun j => bs.getD j true) t1 t2 (by omega) (fun j h1 h2 => ?_) ⟨.bl (bs.all id), H, I, ?_, k⟩
  · have := ke j (by simpa using h1) (by simpa using h2)
    simpa using this
  · show Value.bool _ = Value.bool _
    rw [List.size_toArray, List.size_toArray, l1, l2, Nat.min_self, all_range]
    simp
section
variable {K : PySem.W.Frag} {H : Hp}
theorem KX.pq {X : Cx} (hK : X.K = K) (hu : X.A.units + 64 < cLine) : OpR X (compareOp .Eq) (rPq K) := by subst hK; exact opPq hu
theorem KX.nq {X : Cx} (hK : X.K = K) (hu : X.A.units + 64 < cLine) : OpR X (compareOp .NotEq) (rNq K) := by subst hK; exact opNq hu
theorem KX.tq {X : Cx} (hK : X.K = K) (hu : X.A.units + 66 < cLine) : OpR X (compareOp .Eq) (rTq K) := by subst hK; exact opTq hu
theorem dpLits : ∀ xs : List V, xs.all litB = true → DpAll K H xs (xs.map litD)
  | [], _ => .nil
  | x :: r, h => by
    rw [List.all_cons, Bool.and_eq_true] at h
    have ih := dpLits r h.2
    cases x with
    | int i => exact .cons (.int i) ih
    | bl b => exact .cons (.bl b) ih
    | str z => exact .cons (.str z) ih
    | non => exact .cons .non ih
    | _ => exact absurd h.1 (by simp [litB])
/-- what is drawn is equal to itself -/
structure VSh (d : PyData) : Prop where
  sh : d.hasDict = true ∨ SeqAt.shaped d = true
theorem Vd.pq {v : V} {d : PyData} (h : Vd H v d) (hs : VSh d) : Pq K H v v true := by
  have go : Dp K H v d → SeqAt.shaped d = true → Pq K H v v true := fun hd s => by
    have := Pq.dat hd hd s s
    rw [SeqAt.eqv_refl _ (SeqAt.canLay_of_shaped s)] at this
    exact this
  cases h with
  | non => exact go .non (hs.sh.resolve_left (by decide))
  | bl b => exact go (.bl b) (hs.sh.resolve_left (fun z => nomatch z))
  | int i => exact go (.int i) (hs.sh.resolve_left (fun z => nomatch z))
  | str z => exact go (.str z) (hs.sh.resolve_left (fun z => nomatch z))
  | @tup p xs h1 h2 => have d := dpLits (K := K) (H := H) xs h2; exact go (.tup (.inl (.inl h1)) d) (hs.sh.resolve_left (by rw [show (PyData.tuple (xs.map litD)).hasDict = false from dp_noDict (K := K) (H := H) _ _ (.tup (.inl (.inl h1)) d)]; exact Bool.false_ne_true))
  | @lst p xs h1 _ h2 => have d := dpLits (K := K) (H := H) xs h2; exact go (.lst (.inl (.inl h1)) d) (hs.sh.resolve_left (by rw [show (PyData.list (xs.map litD)).hasDict = false from dp_noDict (K := K) (H := H) _ _ (.lst (.inl (.inl h1)) d)]; exact Bool.false_ne_true))
  | d0 h => exact .d0 h
  | d1 h => exact .d1 h
theorem pqInt (i j : Int) : Pq K H (.int i) (.int j) (decide (i = j)) := by
  have := Pq.dat (K := K) (H := H) (.int i) (.int j) rfl rfl
  rw [show PyData.eqv (.int i) (.int j) = decide (i = j) by first | rfl | (simp [PyData.eqv])] at this
  exact this
end
/-! ## truth of instances -/
def rBoolP (K : PySem.W.Frag) (f : Addr) : List V → Hp → VK → Prop := fun xs H Q => ∃ a C dx fs b, xs = [.ref a] ∧ H a = some (.ins C dx fs) ∧
  ((b = true ∧ PySem.W.findIn K (.ref C) "__bool__" = some none ∧ PySem.W.findIn K (.ref C) "__len__" = some none) ∨ (b = false ∧ PySem.W.findIn K (.ref C) "__bool__" = some (some (.ref f)))) ∧ Q (.bl b) H
def spNo : Sp := fun vs H Q _ => ∃ p, vs = [.ref p] ∧ Q (.bl false) H
theorem call_boolT {prog : Program} {w : World} {A : Around} {E : Value → Shared → Prop} {s : Shared} {K : PySem.W.Frag} {x C : Addr} {ox : Obj} {od : Option Obj} {Q : Value → Shared → Prop} (X : K.In s.heap) (I : PySem.W.InstAt s.heap x ox C od)
    (hs : PySem.W.findIn K (.ref C) "__bool__" = some none) (hl : PySem.W.findIn K (.ref C) "__len__" = some none) (h : Q (.bool true) s) : wpAny (model prog w) A (call (.type "bool") [.ref x]) Q E s := by
  refine callType_newIn (S := fun A R s => wpAny (model prog w) A.in1 (truthy (.ref x)) (fun b s' => R (.ok (.ret (.bool b))) s') (fun e s' => R (.error e) s') s) PySem.F.called_bool PySem.F.newNe_bool (PySem.F.typeCall_bool_1 _) (PySem.F.newCall_bool_1 _) (fun obj => PySem.F.args_object_init_2 obj _) PySem.F.entry_bool_new (fun A R s hs => ?_) ?_
  · obtain ⟨hp, g, d, tk, os⟩ := s
    have f1 := PySem.F.conv_sub_bool
    repeat (any_goals (first | assumption | (refine wpAny_bind (m := truthy (.ref x)) (wpAny_mono hs (fun b s' hb => ?_) fun _ _ e => e)) | wp_step))
    all_goals first | exact hb | skip
  · unfold truthy
    refine wpAny_bind (m := callSpecial? (.ref x) (Str.ofString "__bool__")) (wpAny_bind (wpAny_bind (I.type.here ((PySem.W.looks_findIn X hs).here (wpAny_pure ?_)))))
    refine wpAny_bind (wpAny_bind (I.type.here ((PySem.W.looks_findIn X hl).here ?_)))
    exact wpAny_pure ⟨rfl, h⟩
theorem callBoolP {X : Cx} {f : Addr} {fd : FuncData} {k j : Nat} (hf : PySem.W.isFn X.K (.ref f) = true) (G : FnOk X.prog X.w X.K X.mg X.base CX0 k f fd ["self"] spNo) (hb : L2.Binds X.K fd ["self"] []) (hr : Room (j + 2) X.A) (hk : k ≤ j := by decide) : CallR X (.type "bool") (rBoolP X.K f) := by
  intro pins s σ H xs us Q I r h
  obtain ⟨a, C, dx, fs, b, rfl, ea, hc, q⟩ := h
  obtain ⟨u, rfl, rx⟩ := vals1 r
  cases (show u = Value.ref a from rx)
  obtain ⟨od, J⟩ := ins_inst I.hok ea
  rcases hc with ⟨rfl, h1, h2⟩ | ⟨rfl, h1⟩
  · exact call_boolT I.kIn J h1 h2 ⟨.bl true, H, I, rfl, q⟩
  · refine call_boolOwn I.kIn J h1 hf ?_
    refine wpAny_call (codeAny_mono (G.run X.A.in1.in1 X.stack s H ⟨[.ref a], []⟩ [.ref a] [.ref a] (fun z H' => ∃ c, z = .bl c ∧ Q (.bl c) H') (fun _ _ _ => False) (hr.in1.in1.mono hk) I.env0.in1.in1 (by have := hb s [.ref a] I.kIn rfl; rw [List.append_nil] at this; exact this) (.cons (show RelV (.ref a) (.ref a) from rfl) .nil) ⟨a, rfl, false, rfl, q⟩) fun r s' z => ?_)
    match r, z with
    | .error e, z => exact False.elim z
    | .ok (.ret u), z =>
      obtain ⟨v', H', I', r', c, rfl, q'⟩ := I.after z
      cases (show u = Value.bool c from r')
      exact ⟨c, rfl, .bl c, H', I', rfl, q'⟩
theorem KX.boolP {X : Cx} {K : PySem.W.Frag} {f : Addr} {fd : FuncData} {k j : Nat} (hK : X.K = K) (hf : PySem.W.isFn X.K (.ref f) = true) (G : FnOk X.prog X.w X.K X.mg X.base CX0 k f fd ["self"] spNo) (hb : L2.Binds X.K fd ["self"] []) (hr : Room (j + 2) X.A) (hk : k ≤ j := by decide) : CallR X (.type "bool") (rBoolP K f) := by subst hK; exact callBoolP hf G hb hr hk
/-- own ==, of one of some classes -/
def rOwnJ (K : PySem.W.Frag) (cs : List Addr) (sp : Nat → Sp) (E : XK) : R2 := fun x y H Q => ∃ j, j < cs.length ∧ rOwnD K (cs.getD j 0) (sp j) E x y H Q
theorem eqOwnJ {X : Cx} {K : PySem.W.Frag} {cs : List Addr} {k i : Nat} {sp : Nat → Sp} {E : XK} (hK : X.K = K) (F : ∀ j, j < cs.length → CmpF X.K (cs.getD j 0)) (B : ∀ j, j < cs.length → Me X.prog X.w X.K X.mg X.base (cs.getD j 0) "__eq__" k ["self", "other"] (sp j)) (hr : Room i X.A) (hx : Passes (L2.CX X.prog X.w) X E) (hk : k ≤ i := by decide) :
    OpR X (compareOp .Eq) (rOwnJ K cs sp E) := by
  intro pins s σ H x y v u Q I rx ry h
  obtain ⟨j, hj, h⟩ := h
  exact eqOwnD hK (F j hj) (B j hj) hr hx hk pins s σ H x y v u Q I rx ry h
end L3
end
section
namespace L3
open PySem PySem.Spec PyProof.Rows L2 LamX
/-! ## papers -/
section
variable {K : PySem.W.Frag} {σ : L2.St} {H H' : Hp} {Q : VK} {C : Addr}
def PaAt (H : Hp) (q C : Addr) (fs : List (Str × V)) : Prop := ∃ dx, H q = some (.ins C dx fs)
theorem PaAt.exN {q : Addr} {fs : List (Str × V)} (h : PaAt H q C fs) (e : ExtN H H') : PaAt H' q C fs := h.imp fun _ h => e _ _ h fun _ z => nomatch z
theorem PaAt.ex {q : Addr} {fs : List (Str × V)} (h : PaAt H q C fs) (e : Ex H H') : PaAt H' q C fs := h.exN e.n
def flF (ns : List Str) (xs : List V) : List (Str × V) := (ns.zip xs).foldl (fun a p => putF p.1 p.2 a) []
def spInit (C : Addr) (ns : List Str) : Sp := fun vs H Q _ => ∃ p dx xs, vs = .ref p :: xs ∧ xs.length = ns.length ∧ H p = some (.ins C dx []) ∧ ∀ H', (∀ c o, c ≠ p → H c = some o → H' c = some o) → H' p = some (.ins C dx (flF ns xs)) → Q .non H'
theorem mkP {ns : List Str} {ta : TA} {E : XK} {R : VK} (xs : List V) (hr : ∀ R' : List V → Hp → Prop, R' xs H → ta σ H R') (hl : xs.length = ns.length) (h : ∀ q H', H q = none → Ex H H' → PaAt H' q C (flF ns xs) → R (.ref q) H') : tMake C (spInit C ns) [] E ta σ H R :=
  hr _ fun p dx hp hd hn => ⟨p, dx, xs, by rw [List.append_nil], hl, upd_same, fun H' hk h1 => ⟨rfl, h p H' hp (fun c o e => hk c o (ne_of_none e hp) (by rw [upd_ne (ne_of_none e hp), upd_ne (ne_of_none e hd)]; exact e)) ⟨dx, h1⟩⟩⟩
theorem mkPK {ns : List Str} {t tk : TA} {n m : Nat} {gV : List V → List V → List V} {E : XK} {R : VK} (xs : List V) (hr : ∀ (R' : List V → List V → Hp → Prop), (∀ vs zs, vs.length = n → zs.length = m → (∀ a, gV (.ref a :: vs) zs = .ref a :: xs) → R' vs zs H) → t σ H fun vs H1 => tk σ H1 fun zs H2 => R' vs zs H2)
    (hl : xs.length = ns.length) (h : ∀ q H', H q = none → Ex H H' → PaAt H' q C (flF ns xs) → R (.ref q) H') : tMakeK C n m (spInit C ns) gV E t tk σ H R := by
  refine hr _ fun vs zs l1 l2 hg => ⟨l1, l2, fun p dx hp hd hn => ?_⟩
  rw [hg]
  exact ⟨p, dx, xs, rfl, hl, upd_same, fun H' hk h1 => ⟨rfl, h p H' hp (fun c o e => hk c o (ne_of_none e hp) (by rw [upd_ne (ne_of_none e hp), upd_ne (ne_of_none e hd)]; exact e)) ⟨dx, h1⟩⟩⟩
/-- keywords in another order -/
def permG {α : Type} (ix : List Nat) : List α → List α → List α
  | s :: vs, ws => s :: ix.map fun i => (vs ++ ws).getD i s
  | [], _ => []
theorem vals_getD : ∀ {vs : List V} {us : List Value} {a : V} {b : Value} (i : Nat), Vals vs us → RelV a b → RelV (vs.getD i a) (us.getD i b)
  | [], _, _, _, _, h, r => by cases h; exact r
  | v :: vs, _, _, _, 0, h, r => by cases h with | cons h1 h2 => exact h1
  | v :: vs, _, _, _, i + 1, h, r => by cases h with | cons h1 h2 => exact vals_getD i h2 r
theorem permG_rel (ix : List Nat) {vs zs : List V} {us ws : List Value} (h1 : Vals vs us) (h2 : Vals zs ws) : Vals (permG ix vs zs) (permG ix us ws) := by
  cases h1 with
  | nil => exact .nil
  | cons a as =>
    refine .cons a ?_
    have as2 : Vals _ _ := as
    have ap := as2.append h2
    induction ix with
    | nil => exact .nil
    | cons i r ih => exact .cons (vals_getD i ap a) ih
/-- a class made with some positional values and keywords -/
structure McN (P : Program) (w : World) (K : PySem.W.Frag) (mg : Str → Option Value) (base : Heap) (CX : CXT) (k : Nat) (x : Str) (C : Addr) (n : Nat) (ps : List Str) (sp : Sp) (ks : List Str) (gV : List V → List V → List V) : Prop where
  ex : ∃ (f : Addr) (fd : FuncData) (g : List Value → List Value → List Value), FnOk P w K mg base CX k f fd ps sp ∧ mg x = some (.ref C) ∧ Mk K C f ∧ KBn K fd ps (n + 1) ks g gV
end
section
variable {X : Cx} {CX : CXT} {k : Nat} {ps ks : List Str} {sp : Sp} {E : XK} {x : Str} {p pos : Pos} {e : Expr} {es : List Expr} {t tk : TA} {kws : List Keyword}
theorem pe_mkN0 {j : Nat} {C : Addr} {gV : List V → List V → List V} (c : McN X.prog X.w X.K X.mg X.base CX k x C 0 ps sp ks gV) (hr : Room j X.A) (hx : Passes CX X E) (ha : PK X kws t) (hk : k + 1 ≤ j := by decide) (gl : Gl X x := by rfl)
    (hall : ((backToKw pos (keywordEach kws X.env)).all fun x => x.1.isSome) = true := by rfl) (hks : List.filterMap (fun x => x.1) (backToKw pos (keywordEach kws X.env)) = ks := by rfl)
    (hdb : (x == ("__debug__" : Str)) = false := by decide) (hpl : ((backTo pos (starEach [] X.env)).any (fun x => x.1) || (backToKw pos (keywordEach kws X.env)).any fun x => x.1.isNone) = false := by rfl) :
    PE X (.Call (.Name x p) [] kws pos) (tMakeK C 0 ks.length sp gV E tNil t) := by
  obtain ⟨f, fd, g, F, m, M, b⟩ := c.ex
  exact pe_makeK0 M F (hr.mono hk) gl m b hx ha hall hks hdb hpl
theorem pe_mkN {j n : Nat} {C : Addr} {gV : List V → List V → List V} (c : McN X.prog X.w X.K X.mg X.base CX k x C n ps sp ks gV) (hr : Room j X.A) (hx : Passes CX X E) (ha : PA X (e :: es) t) (hkw : PK X kws tk) (hk : k + 1 ≤ j := by decide) (gl : Gl X x := by rfl)
    (hall : ((backToKw pos (keywordEach kws X.env)).all fun x => x.1.isSome) = true := by rfl) (hks : List.filterMap (fun x => x.1) (backToKw pos (keywordEach kws X.env)) = ks := by rfl)
    (hdb : (x == ("__debug__" : Str)) = false := by decide) (he : starEach (e :: es) X.env = (false, eval e X.env) :: starEach es X.env := by rfl) (hpl : ((backTo pos (starEach (e :: es) X.env)).any (fun x => x.1) || (backToKw pos (keywordEach kws X.env)).any fun x => x.1.isNone) = false := by rfl) :
    PE X (.Call (.Name x p) (e :: es) kws pos) (tMakeK C n ks.length sp gV E t tk) := by
  obtain ⟨f, fd, g, F, m, M, b⟩ := c.ex
  exact pe_makeK M F (hr.mono hk) gl m b hx ha hkw hall hks hdb he hpl
end
section
variable {K : PySem.W.Frag} {σ : L2.St} {H H' : Hp} {Q : VK} {C : Addr}
theorem Pq.ex {x y : V} {b : Bool} (h : Pq K H x y b) (e : Ex H H') : Pq K H' x y b := by
  have sl : ∀ a xs, SqL K H a xs → SqL K H' a xs := fun a xs h => by
    rcases h with (h | ⟨o, h⟩) | h
    · exact .inl (.inl (e _ _ h))
    · exact .inl (.inr ⟨o, e _ _ h⟩)
    · exact .inr h
  have st : ∀ a xs, SqT K H a xs → SqT K H' a xs := fun a xs h => by
    rcases h with (h | ⟨o, h⟩) | h
    · exact .inl (.inl (e _ _ h))
    · exact .inl (.inr ⟨o, e _ _ h⟩)
    · exact .inr h
  cases h with
  | dat h1 h2 h3 h4 => exact .dat (Dp.exN e.n _ _ sl st h1) (Dp.exN e.n _ _ sl st h2) h3 h4
  | d0 h => exact .d0 (e _ _ h)
  | d1 h => exact .d1 (e _ _ h)
theorem inv1 {n1 : Str} {fs fs2 : List (Str × V)} {xs ys : List V} {bs : List Bool} (h1 : [n1].map (fun n => fs.lookup n) = xs.map some) (h2 : [n1].map (fun n => fs2.lookup n) = ys.map some) (ha : PqAll K H xs ys bs) :
    ∃ x1 y1 b1, bs = [b1] ∧ fs.lookup n1 = some x1 ∧ fs2.lookup n1 = some y1 ∧ Pq K H x1 y1 b1 := by
  cases ha with
  | nil => simp at h1
  | cons p1 ha =>
    cases ha with
    | cons _ _ => simp at h1
    | nil =>
      simp only [List.map_cons, List.map_nil, List.cons.injEq, and_true] at h1 h2
      exact ⟨_, _, _, rfl, h1, h2, p1⟩
theorem inv2 {n1 n2 : Str} {fs fs2 : List (Str × V)} {xs ys : List V} {bs : List Bool} (h1 : [n1, n2].map (fun n => fs.lookup n) = xs.map some) (h2 : [n1, n2].map (fun n => fs2.lookup n) = ys.map some) (ha : PqAll K H xs ys bs) :
    ∃ x1 x2 y1 y2 b1 b2, bs = [b1, b2] ∧ fs.lookup n1 = some x1 ∧ fs2.lookup n1 = some y1 ∧ Pq K H x1 y1 b1 ∧ fs.lookup n2 = some x2 ∧ fs2.lookup n2 = some y2 ∧ Pq K H x2 y2 b2 := by
  cases ha with
  | nil => simp at h1
  | cons p1 ha =>
    cases ha with
    | nil => simp at h1
    | cons p2 ha =>
      cases ha with
      | cons _ _ => simp at h1
      | nil =>
        simp only [List.map_cons, List.map_nil, List.cons.injEq, and_true] at h1 h2
        obtain ⟨e1, e2⟩ := h1
        obtain ⟨g1, g2⟩ := h2
        exact ⟨_, _, _, _, _, _, rfl, e1, g1, p1, e2, g2, p2⟩
theorem inv3 {n1 n2 n3 : Str} {fs fs2 : List (Str × V)} {xs ys : List V} {bs : List Bool} (h1 : [n1, n2, n3].map (fun n => fs.lookup n) = xs.map some) (h2 : [n1, n2, n3].map (fun n => fs2.lookup n) = ys.map some) (ha : PqAll K H xs ys bs) :
    ∃ x1 x2 x3 y1 y2 y3 b1 b2 b3, bs = [b1, b2, b3] ∧ fs.lookup n1 = some x1 ∧ fs2.lookup n1 = some y1 ∧ Pq K H x1 y1 b1 ∧ fs.lookup n2 = some x2 ∧ fs2.lookup n2 = some y2 ∧ Pq K H x2 y2 b2 ∧ fs.lookup n3 = some x3 ∧ fs2.lookup n3 = some y3 ∧ Pq K H x3 y3 b3 := by
  cases ha with
  | nil => simp at h1
  | cons p1 ha =>
    cases ha with
    | nil => simp at h1
    | cons p2 ha =>
      cases ha with
      | nil => simp at h1
      | cons p3 ha =>
        cases ha with
        | cons _ _ => simp at h1
        | nil =>
          simp only [List.map_cons, List.map_nil, List.cons.injEq, and_true] at h1 h2
          obtain ⟨e1, e2, e3⟩ := h1
          obtain ⟨g1, g2, g3⟩ := h2
          exact ⟨_, _, _, _, _, _, _, _, _, rfl, e1, g1, p1, e2, g2, p2, e3, g3, p3⟩
theorem inv4 {n1 n2 n3 n4 : Str} {fs fs2 : List (Str × V)} {xs ys : List V} {bs : List Bool} (h1 : [n1, n2, n3, n4].map (fun n => fs.lookup n) = xs.map some) (h2 : [n1, n2, n3, n4].map (fun n => fs2.lookup n) = ys.map some) (ha : PqAll K H xs ys bs) :
    ∃ x1 x2 x3 x4 y1 y2 y3 y4 b1 b2 b3 b4, bs = [b1, b2, b3, b4] ∧ fs.lookup n1 = some x1 ∧ fs2.lookup n1 = some y1 ∧ Pq K H x1 y1 b1 ∧ fs.lookup n2 = some x2 ∧ fs2.lookup n2 = some y2 ∧ Pq K H x2 y2 b2 ∧ fs.lookup n3 = some x3 ∧ fs2.lookup n3 = some y3 ∧ Pq K H x3 y3 b3 ∧ fs.lookup n4 = some x4 ∧ fs2.lookup n4 = some y4 ∧ Pq K H x4 y4 b4 := by
  cases ha with
  | nil => simp at h1
  | cons p1 ha =>
    cases ha with
    | nil => simp at h1
    | cons p2 ha =>
      cases ha with
      | nil => simp at h1
      | cons p3 ha =>
        cases ha with
        | nil => simp at h1
        | cons p4 ha =>
          cases ha with
          | cons _ _ => simp at h1
          | nil =>
            simp only [List.map_cons, List.map_nil, List.cons.injEq, and_true] at h1 h2
            obtain ⟨e1, e2, e3, e4⟩ := h1
            obtain ⟨g1, g2, g3, g4⟩ := h2
            exact ⟨_, _, _, _, _, _, _, _, _, _, _, _, rfl, e1, g1, p1, e2, g2, p2, e3, g3, p3, e4, g4, p4⟩
theorem inv5 {n1 n2 n3 n4 n5 : Str} {fs fs2 : List (Str × V)} {xs ys : List V} {bs : List Bool} (h1 : [n1, n2, n3, n4, n5].map (fun n => fs.lookup n) = xs.map some) (h2 : [n1, n2, n3, n4, n5].map (fun n => fs2.lookup n) = ys.map some) (ha : PqAll K H xs ys bs) :
    ∃ x1 x2 x3 x4 x5 y1 y2 y3 y4 y5 b1 b2 b3 b4 b5, bs = [b1, b2, b3, b4, b5] ∧ fs.lookup n1 = some x1 ∧ fs2.lookup n1 = some y1 ∧ Pq K H x1 y1 b1 ∧ fs.lookup n2 = some x2 ∧ fs2.lookup n2 = some y2 ∧ Pq K H x2 y2 b2 ∧ fs.lookup n3 = some x3 ∧ fs2.lookup n3 = some y3 ∧ Pq K H x3 y3 b3 ∧ fs.lookup n4 = some x4 ∧ fs2.lookup n4 = some y4 ∧ Pq K H x4 y4 b4 ∧ fs.lookup n5 = some x5 ∧ fs2.lookup n5 = some y5 ∧ Pq K H x5 y5 b5 := by
  cases ha with
  | nil => simp at h1
  | cons p1 ha =>
    cases ha with
    | nil => simp at h1
    | cons p2 ha =>
      cases ha with
      | nil => simp at h1
      | cons p3 ha =>
        cases ha with
        | nil => simp at h1
        | cons p4 ha =>
          cases ha with
          | nil => simp at h1
          | cons p5 ha =>
            cases ha with
            | cons _ _ => simp at h1
            | nil =>
              simp only [List.map_cons, List.map_nil, List.cons.injEq, and_true] at h1 h2
              obtain ⟨e1, e2, e3, e4, e5⟩ := h1
              obtain ⟨g1, g2, g3, g4, g5⟩ := h2
              exact ⟨_, _, _, _, _, _, _, _, _, _, _, _, _, _, _, rfl, e1, g1, p1, e2, g2, p2, e3, g3, p3, e4, g4, p4, e5, g5, p5⟩
def spEqC (K : PySem.W.Frag) (C : Addr) (ns : List Str) : Sp := fun vs H Q _ => ∃ p y fs, vs = [.ref p, y] ∧ PaAt H p C fs ∧ ((∃ q fs' xs ys bs, y = .ref q ∧ PaAt H q C fs' ∧ fs.lookup ("own_row" : Str) = none ∧ fs'.lookup ("own_row" : Str) = none ∧ ns.map (fun n => fs.lookup n) = xs.map some ∧ ns.map (fun n => fs'.lookup n) = ys.map some ∧ PqAll K H xs ys bs ∧ ∀ H', Ex H H' → Q (.bl (bs.all id)) H') ∨
  (∃ ty, TyA K H y ty ∧ PySem.W.kitOne K ty (.ref C) = some false ∧ ∀ H', Ex H H' → Q (.bl false) H'))
theorem pqAll_same : ∀ {xs : List V}, (∀ x ∈ xs, Pq K H x x true) → ∃ bs, PqAll K H xs xs bs ∧ bs.all id = true
  | [], _ => ⟨[], .nil, rfl⟩
  | x :: r, h => by
    obtain ⟨bs, a, b⟩ := pqAll_same fun y hy => h y (List.mem_cons_of_mem _ hy)
    exact ⟨true :: bs, .cons (h x List.mem_cons_self) a, by rw [List.all_cons, b]; rfl⟩
/-- own ==, the other one a list too -/
def OthL (K : PySem.W.Frag) (C : Addr) (y : V) (H : Hp) : Prop := OthD K C y H ∨ ∃ q xs, y = .ref q ∧ H q = some (.lst xs)
def rOwnL (K : PySem.W.Frag) (cs : List Addr) (sp : Nat → Sp) (E : XK) : R2 := fun x y H Q => ∃ j, j < cs.length ∧ ∃ a dx fs, x = .ref a ∧ H a = some (.ins (cs.getD j 0) dx fs) ∧ OthL K (cs.getD j 0) y H ∧ sp j [x, y] H Q E
theorem eqOwnL {X : Cx} {cs : List Addr} {k i : Nat} {sp : Nat → Sp} {E : XK} (hK : X.K = K) (F : ∀ j, j < cs.length → CmpF X.K (cs.getD j 0)) (B : ∀ j, j < cs.length → Me X.prog X.w X.K X.mg X.base (cs.getD j 0) "__eq__" k ["self", "other"] (sp j)) (hr : Room i X.A) (hx : Passes (L2.CX X.prog X.w) X E) (hk : k ≤ i := by decide) :
    OpR X (compareOp .Eq) (rOwnL K cs sp E) := by
  subst hK
  intro pins s σ H x y v u Q I rx ry h
  obtain ⟨j, hj, a, dx, fs, rfl, ea, ho, q⟩ := h
  obtain ⟨f, fd, h1, h2, G, b⟩ := (B j hj).ex
  obtain rfl : v = Value.ref a := rx
  obtain ⟨od, J⟩ := ins_inst I.hok ea
  obtain ⟨tb, L, nf⟩ : ∃ tb, PySem.W.Looks (model X.prog X.w) s.heap (typeOf u) tb ∧ PySem.W.notFirst X.K (cs.getD j 0) tb = true := by
    rcases ho with ho | ⟨q, xs, rfl, e⟩
    · exact othD_looks (F j hj) I ry ho
    · obtain ⟨P', kx, hP, _⟩ := kit_of I ry (TyX.base (.lst e))
      exact ⟨_, kx.ty _ _ I.kIn hP, List.all_eq_true.mp (F j hj).notF "list" (by simp)⟩
  obtain ⟨mm, Fr⟩ := I.fr
  show wpAny _ _ (richCompare .Eq _ _) _ _ _
  exact PySem.W.cmp_K hr.units0 Fr I.mod.kin J L nf h1 h2 (wpAny_mono (run_fn G (hr.mono hk) b .nil hx I (vs := [.ref a, y]) (.cons (show RelV (.ref a) (.ref a) from rfl) (.cons ry .nil)) (by rw [List.append_nil]; exact q)) (fun w' s' ⟨v', H', I', r', z⟩ => rel_back r' ⟨v', H', I', r', z⟩) fun _ _ z => z)
/-! rows of papers -/
def spTellP (K : PySem.W.Frag) (gs : List Str) : Sp := fun xs H Q _ => ∃ a C fs vs, xs = [.ref a] ∧ PaAt H a C fs ∧ Cls K C ∧ (∀ g ∈ gs, NoAttr K C g) ∧ gs.map (fun g => fs.lookup g) = vs.map some ∧
  ∀ p H', p ≠ sysModules → H p = none → Ex H H' → H' p = some (.lst vs) → Q (.ref p) H'
structure RowD where
  c : Nat
  fs : List (Str × V)
  gs : List Str
  vs : List V
  B : V
def RowAt (Lm : Hp → Addr → Sp → Prop) (K : PySem.W.Frag) (cs : List Addr) (H : Hp) (x : V) (r : RowD) : Prop := ∃ t e f l, x = .ref t ∧ H t = some (.tup [.ref e, .ref f, .ref l, r.B]) ∧ PaAt H e (cs.getD r.c 0) r.fs ∧ Lm H f (spTellP K r.gs) ∧ H l = some (.lst r.vs) ∧ l ≠ sysModules
theorem RowAt.exN {Lm : Hp → Addr → Sp → Prop} (hL : ∀ H H' f sp, Lm H f sp → ExtN H H' → Lm H' f sp) {cs : List Addr} {x : V} {r : RowD} (h : RowAt Lm K cs H x r) (e : ExtN H H') : RowAt Lm K cs H' x r := by
  obtain ⟨t, e0, f, l, h1, h2, h3, h4, h5, h6⟩ := h
  exact ⟨t, e0, f, l, h1, e _ _ h2 (fun _ z => nomatch z), h3.exN e, hL _ _ _ _ h4 e, e _ _ h5 (fun _ z => nomatch z), h6⟩
theorem s_rowP {Lm : Hp → Addr → Sp → Prop} (hL : ∀ H H' f sp, Lm H f sp → ExtN H H' → Lm H' f sp) {Tt : List (Addr × Str)} {cs : List Addr} {t1 t2 t3 t4 : TE} {tr : TA} {QL : List V → Hp → Prop} (r : RowD) (ht : Tabs Tt H)
    (hE : ∀ (H : Hp) (R : VK), (∀ a H', H a = none → Ex H H' → PaAt H' a (cs.getD r.c 0) r.fs → R (.ref a) H') → t1 σ H R)
    (hF : ∀ (H : Hp) (R : VK), Tabs Tt H → (∀ f H', ExtN H H' → Tabs Tt H' → Lm H' f (spTellP K r.gs) → R (.ref f) H') → t2 σ H R)
    (hD : ∀ (H : Hp) (R : VK), (∀ l H', Ex H H' → H' l = some (.lst r.vs) → l ≠ sysModules → R (.ref l) H') → t3 σ H R)
    (hB : ∀ (H : Hp) (R : VK), R r.B H → t4 σ H R)
    (k : ∀ t H', ExtN H H' → Tabs Tt H' → RowAt Lm K cs H' (.ref t) r → tr σ H' fun xs H2 => QL (.ref t :: xs) H2) :
    tCons (tTup (tCons t1 (tCons t2 (tCons t3 (tCons t4 tNil))))) tr σ H QL := by
  refine hE H _ fun a H1 _ e1 ea => hF H1 _ (ht.ext e1) fun f H2 e2 t2 lf => hD H2 _ fun l H3 e3 hl nl => hB H3 _ ⟨(show 4 ≤ sizeLine by decide), fun t htn => ?_⟩
  have e4 : Ex H3 (upd H3 t (.tup [.ref a, .ref f, .ref l, r.B])) := ex_new htn
  have e14 : ExtN H1 (upd H3 t (.tup [.ref a, .ref f, .ref l, r.B])) := e2.trans (e3.trans e4).n
  exact k t _ (e1.n.trans e14) ((t2.ext e3).ext e4) ⟨t, a, f, l, rfl, upd_same, ea.exN e14, hL _ _ _ _ lf (e3.trans e4).n, e4 _ _ hl, nl⟩
theorem s_tellP {v : V} {gs : List Str} {E : XK} (h : spTellP K gs [v] H Q E) : ∃ a C fs vs, v = .ref a ∧ PaAt H a C fs ∧ Cls K C ∧ (∀ g ∈ gs, NoAttr K C g) ∧ gs.map (fun g => fs.lookup g) = vs.map some ∧ ∀ p H', p ≠ sysModules → H p = none → Ex H H' → H' p = some (.lst vs) → Q (.ref p) H' := by
  obtain ⟨a, C, fs, vs, ⟨⟩, h⟩ := h
  exact ⟨a, C, fs, vs, rfl, h⟩
theorem s_tp1 {v : V} {g1 : Str} {E : XK} (h : spTellP K [g1] [v] H Q E) : tLstN (tCons (tFld K (tVar 0) g1) tNil) [some v] H Q := by
  obtain ⟨a, C, fs, vs, rfl, ⟨dx, ea⟩, cl, hno, hm, k⟩ := s_tellP h
  have hlen : vs.length = 1 := by simpa using (congrArg List.length hm).symm
  match vs, hm, hlen, k with
  | [x1], hm, _, k => exact ⟨_, rfl, a, C, dx, fs, x1, rfl, ea, cl, hno _ (by simp), by simpa using hm, (show 1 ≤ sizeLine by decide), fun p hp np => k p _ np hp (ex_new hp) upd_same⟩
theorem s_tp2 {v : V} {g1 g2 : Str} {E : XK} (h : spTellP K [g1, g2] [v] H Q E) : tLstN (tCons (tFld K (tVar 0) g1) (tCons (tFld K (tVar 0) g2) tNil)) [some v] H Q := by
  obtain ⟨a, C, fs, vs, rfl, ⟨dx, ea⟩, cl, hno, hm, k⟩ := s_tellP h
  have hlen : vs.length = 2 := by simpa using (congrArg List.length hm).symm
  match vs, hm, hlen, k with
  | [x1, x2], hm, _, k =>
    have hm' : fs.lookup g1 = some x1 ∧ fs.lookup g2 = some x2 := by simpa using hm
    exact ⟨_, rfl, a, C, dx, fs, x1, rfl, ea, cl, hno _ (by simp), hm'.1, _, rfl, a, C, dx, fs, x2, rfl, ea, cl, hno _ (by simp), hm'.2, (show 2 ≤ sizeLine by decide), fun p hp np => k p _ np hp (ex_new hp) upd_same⟩
theorem s_tp3 {v : V} {g1 g2 g3 : Str} {E : XK} (h : spTellP K [g1, g2, g3] [v] H Q E) : tLstN (tCons (tFld K (tVar 0) g1) (tCons (tFld K (tVar 0) g2) (tCons (tFld K (tVar 0) g3) tNil))) [some v] H Q := by
  obtain ⟨a, C, fs, vs, rfl, ⟨dx, ea⟩, cl, hno, hm, k⟩ := s_tellP h
  have hlen : vs.length = 3 := by simpa using (congrArg List.length hm).symm
  match vs, hm, hlen, k with
  | [x1, x2, x3], hm, _, k =>
    have hm' : fs.lookup g1 = some x1 ∧ fs.lookup g2 = some x2 ∧ fs.lookup g3 = some x3 := by simpa using hm
    exact ⟨_, rfl, a, C, dx, fs, x1, rfl, ea, cl, hno _ (by simp), hm'.1, _, rfl, a, C, dx, fs, x2, rfl, ea, cl, hno _ (by simp), hm'.2.1, _, rfl, a, C, dx, fs, x3, rfl, ea, cl, hno _ (by simp), hm'.2.2, (show 3 ≤ sizeLine by decide), fun p hp np => k p _ np hp (ex_new hp) upd_same⟩
end
theorem units66 {k : Nat} {A : Around} (r : Room k A) : A.units + 66 < cLine := by have := r.un; omega
end L3
end
section
local macro_rules | `(tactic| tm_at "s1") => `(tactic| first
  | with_reducible first
    | refine L3.s_seq ?_ | refine L3.s_asg ?_ | refine L3.s_op ?_ | refine L3.s_c ?_ | refine L3.s_cb ?_ | refine L3.s_cons ?_ | refine L3.s_nil ?_ | refine L3.s_test ?_ | refine L3.s_bl ?_
    | refine L3.s_I0 ?_ | refine L3.s_and ?_ | refine L3.s_or ?_ | refine L3.s_not ?_ | refine L3.s_if ?_ | refine L3.s_next ?_ | refine L3.s_ret ?_ | refine L3.s_retN ?_ | refine L3.s_asgS ?_ | refine L3.s_drop ?_
    | refine L3.s_un ?_ | refine L3.s_U ?_ | refine L3.s_int ?_ | refine L3.s_intB ?_ | refine L3.s_abs ?_ | refine L3.s_andV ?_ | refine L3.s_orV ?_ | refine L3.s_notV ?_ | refine L3.s_ifE ?_ | refine L3.s_call ?_ | refine L3.s_lst ?_ | refine L3.s_tup ?_ | refine L3.s_tB ?_
    | refine L3.s_addI ?_ | refine L3.s_inS ?_ | refine L3.s_ninS ?_ | refine L3.s_slice ?_ | refine L3.s_part ?_ | refine L3.s_partI ?_ | refine L3.s_nopart ?_ | refine L3.s_cI ?_ | refine L3.s_cB ?_ | refine L3.s_chain ?_ | refine L3.s_bm ?_ | refine L3.s_lcS ?_ | refine L3.s_lcR ?_ | refine L3.s_strE ?_
    | refine L2.iteT ?_ | refine L2.iteF ?_ | refine L3.iteNF ?_ | refine L3.iteNT ?_
    | refine L3.s_eqI ?_ | refine L3.s_neI ?_ | refine L3.s_eqS ?_ | refine L3.s_neS ?_
    | refine L3.s_pair ?_ | refine L3.s_pair2 ?_ | refine L3.s_fld ?_ | refine L3.s_make ?_ | refine L3.s_m1 ?_ | refine L3.s_isstr ?_
    | refine L3.s_xfV ?_ | refine L3.s_lstN ?_ | refine L3.s_callF ?_ | refine L3.s_lcL ?_ | refine L3.s_par3 ?_ | refine L3.s_trip ?_ | refine L3.s_asgT' ?_ | refine L3.s_gC ?_ | refine L3.s_gN ?_ | refine L3.s_fldG ?_ | refine L3.s_raise1 ?_
    | refine L3.s_isN ?_ | refine L3.s_isB ?_ | refine L3.s_nisN ?_ | refine L3.s_nisB ?_
  | ((with_reducible refine' L3.s_var ?e ?_); (case e => rfl))
  | ((with_reducible refine' L3.s_aug ?e ?_); (case e => rfl))
  | ((with_reducible refine' L3.s_pow ?c ?_); (case c => exact ⟨by decide, by decide, by decide⟩)))
local macro_rules | `(tactic| tm_at "s") => `(tactic| repeat tm_at "s1")
namespace K03
open PySem PySem.Spec PyProof.Rows L2 L3 LamX
def topS (i : Nat) : Stmt := PySem.Challenge.pw_latechunks_k03_papers_of_all_kinds.main.body.getD i (.Pass ⟨0, 0, 0, 0⟩)
def fldsL : List (List Str) := [["chunks"], ["rests"], ["total", "chunks"], ["limit", "chunks", "below"], ["late", "rest", "spot"], ["spot", "rise"], ["begins"], ["rest"], ["begins"], ["rest"], ["first", "last"], ["rest"], ["never", "steady"], ["total", "counts"], ["upto"], ["late", "rest"], ["residue", "begin"], ["table"], ["rest", "late"], ["late", "at", "world"], ["worker", "at", "begun", "ended"], ["world"], ["at", "why"], ["workers"], ["least", "most"], ["names", "late", "last"], ["loop", "worker", "many", "begun", "ended"]]
abbrev flds (j : Nat) : List Str := fldsL.getD j []
def denL : List Bool := [false, true, false, false, false, true, false, true, false, true, false, true, false, true, true, false, true, false, true, false, false, false, true, true, false, false, false]
abbrev den (j : Nat) : Bool := denL.getD j false
structure Txt (K : PySem.W.Frag) (mg : Str → Option Value) (cs : List Addr) (CP CD fb : Addr) : Prop where
  b_isinstance : mg "isinstance" = none
  b_int : mg "int" = none
  b_len : mg "len" = none
  b_abs : mg "abs" = none
  b_list : mg "list" = none
  b_range : mg "range" = none
  b_repr : mg "repr" = none
  b_bool : mg "bool" = none
  g_Paper : ∃ u, mg "Paper" = some u ∧ RelV (.ref CP) u
  g_Denial : ∃ u, mg "Denial" = some u ∧ RelV (.ref CD) u
  g_Fewest : ∃ u, mg "Fewest" = some u ∧ RelV (.ref (cs.getD 0 0)) u
  g_NoList : ∃ u, mg "NoList" = some u ∧ RelV (.ref (cs.getD 1 0)) u
  g_Greatest : ∃ u, mg "Greatest" = some u ∧ RelV (.ref (cs.getD 2 0)) u
  g_Least : ∃ u, mg "Least" = some u ∧ RelV (.ref (cs.getD 3 0)) u
  g_BatchBound : ∃ u, mg "BatchBound" = some u ∧ RelV (.ref (cs.getD 4 0)) u
  g_BatchEndless : ∃ u, mg "BatchEndless" = some u ∧ RelV (.ref (cs.getD 5 0)) u
  g_NeverLess : ∃ u, mg "NeverLess" = some u ∧ RelV (.ref (cs.getD 6 0)) u
  g_Less : ∃ u, mg "Less" = some u ∧ RelV (.ref (cs.getD 7 0)) u
  g_Steady : ∃ u, mg "Steady" = some u ∧ RelV (.ref (cs.getD 8 0)) u
  g_Jump : ∃ u, mg "Jump" = some u ∧ RelV (.ref (cs.getD 9 0)) u
  g_Same : ∃ u, mg "Same" = some u ∧ RelV (.ref (cs.getD 10 0)) u
  g_Other : ∃ u, mg "Other" = some u ∧ RelV (.ref (cs.getD 11 0)) u
  g_Surely : ∃ u, mg "Surely" = some u ∧ RelV (.ref (cs.getD 12 0)) u
  g_Counter : ∃ u, mg "Counter" = some u ∧ RelV (.ref (cs.getD 13 0)) u
  g_Undecided : ∃ u, mg "Undecided" = some u ∧ RelV (.ref (cs.getD 14 0)) u
  g_Bound : ∃ u, mg "Bound" = some u ∧ RelV (.ref (cs.getD 15 0)) u
  g_Endless : ∃ u, mg "Endless" = some u ∧ RelV (.ref (cs.getD 16 0)) u
  g_Within : ∃ u, mg "Within" = some u ∧ RelV (.ref (cs.getD 17 0)) u
  g_Beyond : ∃ u, mg "Beyond" = some u ∧ RelV (.ref (cs.getD 18 0)) u
  g_Latest : ∃ u, mg "Latest" = some u ∧ RelV (.ref (cs.getD 19 0)) u
  g_Taking : ∃ u, mg "Taking" = some u ∧ RelV (.ref (cs.getD 20 0)) u
  g_Fits : ∃ u, mg "Fits" = some u ∧ RelV (.ref (cs.getD 21 0)) u
  g_Misfit : ∃ u, mg "Misfit" = some u ∧ RelV (.ref (cs.getD 22 0)) u
  g_Ring : ∃ u, mg "Ring" = some u ∧ RelV (.ref (cs.getD 23 0)) u
  g_Came : ∃ u, mg "Came" = some u ∧ RelV (.ref (cs.getD 24 0)) u
  g_BestOrder : ∃ u, mg "BestOrder" = some u ∧ RelV (.ref (cs.getD 25 0)) u
  g_PoolTaking : ∃ u, mg "PoolTaking" = some u ∧ RelV (.ref (cs.getD 26 0)) u
  len : cs.length = 27
  cl : ∀ j, j < 27 → Cls K (cs.getD j 0)
  tyf : ∀ j, j < 27 → PySem.W.findIn K (.ref (cs.getD j 0)) "__class__" = some (some (.builtin "object.__class__")) ∧ PySem.W.mroIn K (cs.getD j 0) (.type "object") = some true
  hn : PySem.W.specialIn K (.builtin "object.__class__") "__get__" = some (some (.builtin "getset_descriptor.__get__"))
  htk : PySem.W.takesIn K (.builtin "object.__class__") = some true
  kit : ∀ i j, i < 27 → j < 27 → PySem.W.kitOne K (.ref (cs.getD i 0)) (.ref (cs.getD j 0)) = some (decide (i = j))
  kitP : ∀ i, i < 27 → PySem.W.kitOne K (.ref (cs.getD i 0)) (.ref CP) = some true
  kitD : ∀ i, i < 27 → PySem.W.kitOne K (.ref (cs.getD i 0)) (.ref CD) = some (den i)
  kitLs : ∀ i, i < 27 → PySem.W.kitOne K (.type "list") (.ref (cs.getD i 0)) = some false
  fld : ∀ j, j < 27 → ∀ g ∈ flds j, NoAttr K (cs.getD j 0) g
  cmp : ∀ j, j < 27 → CmpF K (cs.getD j 0)
  nf : ∀ i j, i < 27 → j < 27 → PySem.W.notFirst K (cs.getD i 0) (.ref (cs.getD j 0)) = true
  bo : ∀ j, j < 27 → (den j = false ∧ PySem.W.findIn K (.ref (cs.getD j 0)) "__bool__" = some none ∧ PySem.W.findIn K (.ref (cs.getD j 0)) "__len__" = some none) ∨ (den j = true ∧ PySem.W.findIn K (.ref (cs.getD j 0)) "__bool__" = some (some (.ref fb)))
theorem Txt.ty {K : PySem.W.Frag} {mg : Str → Option Value} {cs : List Addr} {CP CD fb : Addr} (T : Txt K mg cs CP CD fb) {j : Nat} (hj : j < 27) {H : Hp} {p dx : Addr} {fs : List (Str × V)} (e : H p = some (.ins (cs.getD j 0) dx fs)) : TyA K H (.ref p) (.ref (cs.getD j 0)) :=
  .x (.base (.ins e (T.cl j hj) (T.tyf j hj).1 T.hn T.htk (T.tyf j hj).2))
theorem Txt.kC {K : PySem.W.Frag} {mg : Str → Option Value} {cs : List Addr} {CP CD fb : Addr} (T : Txt K mg cs CP CD fb) {j : Nat} (hj : j < 27) : PySem.W.kitOne K (.ref (cs.getD j 0)) (.ref (cs.getD j 0)) = some true := by rw [T.kit j j hj hj, decide_eq_true rfl]
abbrev s__law_pen : Stmt := topS 40
abbrev names__law_pen : List Str := ["_law_script"]
theorem sc__law_pen : FnScope ["_law_script"] ["_law_script"] (defScope s__law_pen) := ⟨rfl, rfl, rfl, by decide +kernel, rfl, by decide +kernel, by decide +kernel⟩
abbrev s__law_draw : Stmt := topS 41
abbrev names__law_draw : List Str := ["_law_pen_here", "_law_many", "_law_digit", "_law_spot", "_law_cell", "_law_great", "_law_stirred"]
theorem sc__law_draw : FnScope ["_law_pen_here", "_law_many", "_law_digit", "_law_spot", "_law_cell", "_law_great", "_law_stirred"] ["_law_pen_here", "_law_many"] (defScope s__law_draw) := ⟨rfl, rfl, rfl, by decide +kernel, rfl, by decide +kernel, by decide +kernel⟩
abbrev s__law_pick : Stmt := topS 42
abbrev names__law_pick : List Str := ["_law_pen_here", "_law_some"]
theorem sc__law_pick : FnScope ["_law_pen_here", "_law_some"] ["_law_pen_here", "_law_some"] (defScope s__law_pick) := ⟨rfl, rfl, rfl, by decide +kernel, rfl, by decide +kernel, by decide +kernel⟩
section
variable {P : Program} {w : World} {K : PySem.W.Frag} {mg : Str → Option Value} {base : Heap} {cs : List Addr} {CP CD fb : Addr}
theorem ok_pen {f : Addr} {fd : FuncData} (F : Fun K "_law_pen" "_law_pen" s__law_pen f fd) (T : Txt K mg cs CP CD fb) : FnG P w K mg base CX0 1 f fd ["_law_script"] (spPen K) := by
  refine funG F sc__law_pen (fun vs H Q E h => ?_) (fun cd A fr s H vs Q E hr hg h => ?_)
  · obtain ⟨a, ns, rfl, _⟩ := h; rfl
  · obtain ⟨a, ns, rfl, hs, hl, k⟩ := h
    refine ⟨_, pss_penNew ((pss_one (ps_ret (pe_lst (pa_cons (pe_callTy (KX.callList (K := K) rfl rfl) (by rfl) T.b_list (by decide +kernel) (pa_cons (pe_slice (KX.slU (K := K)) (pv 0) po_none (po_some pe_int)) pa_nil)) (pa_cons pe_int (pa_cons pe_int pa_nil))))))), ?_⟩
    show (tRet _ : TS) _ _ _
    tm_at "s"
    refine s_slL hs fun q H1 hq e1 h1 => ?_
    tm_at "s"
    refine s_listL (.inl (.inl h1)) fun l H2 hl2 e2 h2 => ?_
    tm_at "s"
    refine s_new (Nat.le_of_lt (small1000 (by simp))) fun p H3 hp e3 h3 => ?_
    have hH : H p = none := e1.free (e2.free hp)
    have nlp : l ≠ p := ne_of_none h2 hp
    have hHl : H l = none := e1.free hl2
    refine ⟨p, l, 0, ns.take 63, rfl, h3, ?_, nlp, k p _ hH (fun b o hb => ?_) ⟨l, ns.take 63, ?_, upd_same, ?_, nlp⟩⟩
    · rw [e3 _ _ h2]
      have : cutV (ns.map V.int) none (some 63) = (ns.take 63).map V.int := by
        unfold cutV
        show ((ns.map V.int).drop 0).take (HT.sIx (ns.map V.int).length (ns.map V.int).length (some (63 : Nat)) - 0) = _
        rw [HT.sIx_nat, List.drop_zero, List.length_map, Nat.sub_zero, List.map_take]
        rw [List.take_eq_take_iff]
        simp
      rw [this]
    · rw [upd_ne (ne_of_none hb hHl), upd_ne (ne_of_none hb hH)]
      exact e3 _ _ (e2 _ _ (e1 _ _ hb))
    · rw [upd_ne (Ne.symm nlp)]; exact upd_same
    · rw [List.length_take]; omega
theorem drawC : DrawC 93049 925 2147437957 84055 523 2147427967 137 71043 125 2147417983 := ⟨by decide, by decide, by decide, by decide, by decide, by decide, by decide, by decide, by decide⟩
theorem ok_draw {f : Addr} {fd : FuncData} (F : Fun K "_law_draw" "_law_draw" s__law_draw f fd) (T : Txt K mg cs CP CD fb) : FnG P w K mg base CX0 1 f fd ["_law_pen_here", "_law_many"] spDraw := by
  refine funG F sc__law_draw (fun vs H Q E h => ?_) (fun cd A fr s H vs Q E hr hg h => ?_)
  · obtain ⟨a, n, many, rfl, _⟩ := h; rfl
  · obtain ⟨a, n, many, rfl, hm, hm2, ⟨c, ns, ha, hc, hl⟩, hn, k⟩ := h
    refine ⟨_, pss_sc c ns (pss_pen a c n (n + 1) ((pss_cons (ps_if (pt_cmpR op_gt (pe_ix (KX.ixU (K := K)) (pv 0) pe_int (fun _ _ => rfl)) pe_int (nomark _)) (pss_cons (ps_set (i := 2) sc__law_draw.nd rfl (Or.inl rfl) (pe_op op_mod (pe_callTy (KX.callInt (K := K)) (by rfl) T.b_int (by decide +kernel) (pa_cons (pe_ix (KX.ixU (K := K)) (pv 0) pe_int (fun _ _ => rfl)) pa_nil)) (pv 1)))
      (pss_cons (ps_asg (pe_op op_fdivW (pe_callTy (KX.callInt (K := K)) (by rfl) T.b_int (by decide +kernel) (pa_cons (pe_ix (KX.ixU (K := K)) (pv 0) pe_int (fun _ _ => rfl)) pa_nil)) (pv 1)) (pg_sub (pv 0) pe_int set_list))
      (pss_one (ps_ret (pv 2))))) pss_nil)
      (pss_cons (ps_set (i := 3) sc__law_draw.nd rfl (Or.inl rfl) (pe_ix (KX.ixU (K := K)) (pv 0) pe_int (fun _ _ => rfl)))
      (pss_cons (ps_asg (pe_op opAdd (pv 3) pe_int) (pg_sub (pv 0) pe_int set_list))
      (pss_cons (ps_set (i := 4) sc__law_draw.nd rfl (Or.inl rfl) (pe_op opAdd (pe_op opMul pe_int (pv 3)) pe_int))
      (Evl.pss_cut (ps_if (pt_cmpR (KX.neU (K := K) rfl hr.units) (pe_ix (KX.ixU (K := K)) (pv 0) pe_int (fun _ _ => rfl)) (pe_lst pa_nil) (nomark _)) (pss_one (ps_set (i := 4) sc__law_draw.nd rfl (Or.inl rfl) (pe_ix (KX.ixU (K := K)) (pe_ix (KX.ixU (K := K)) (pv 0) pe_int (fun _ _ => rfl)) (pe_op op_mod (pe_callTy (KX.callInt (K := K)) (by rfl) T.b_int (by decide +kernel) (pa_cons (pv 3) pa_nil)) (pe_callB (KX.callLen (K := K)) (by rfl) T.b_len (by decide +kernel) (pa_cons (pe_ix (KX.ixU (K := K)) (pv 0) pe_int (fun _ _ => rfl)) pa_nil))) (fun _ _ => rfl)))) pss_nil)
      (pss_cons (ps_if (PW.pt (pw_and (pt_cmpR op_lt (pv 3) (pe_callB (KX.callLen (K := K)) (by rfl) T.b_len (by decide +kernel) (pa_cons (pe_ix (KX.ixU (K := K)) (pv 0) pe_int (fun _ _ => rfl)) pa_nil)) (nomark _)) (pw_and1 (pt_cmpR op_ge (pe_callB call_abs (by rfl) T.b_abs (by decide +kernel) (pa_cons (pv 4) pa_nil)) (pe_op op_pow pe_int pe_int) (nomark _))))) (pss_cons (ps_set (i := 5) sc__law_draw.nd rfl (Or.inl rfl) (pe_op opAdd (pe_op opMul pe_int (pe_op op_sub (pe_callB call_abs (by rfl) T.b_abs (by decide +kernel) (pa_cons (pv 4) pa_nil)) (pe_op op_pow pe_int pe_int))) (pe_callTy (KX.callInt (K := K)) (by rfl) T.b_int (by decide +kernel) (pa_cons (pe_cmpR op_lt (pv 4) pe_int (nomark _)) pa_nil))))
      (pss_cons (ps_asg (pe_op op_fdivW (pe_callTy (KX.callInt (K := K)) (by rfl) T.b_int (by decide +kernel) (pa_cons (pv 5) pa_nil)) (pv 1)) (pg_sub (pv 0) pe_int set_list))
      (pss_one (ps_ret (pe_op op_mod (pe_callTy (KX.callInt (K := K)) (by rfl) T.b_int (by decide +kernel) (pa_cons (pv 5) pa_nil)) (pv 1)))))) pss_nil)
      (pss_cons (ps_set (i := 6) sc__law_draw.nd rfl (Or.inl rfl) (pe_op op_mod (pe_callTy (KX.callInt (K := K)) (by rfl) T.b_int (by decide +kernel) (pa_cons (pe_op op_pow (pe_op opAdd (pe_op opAdd (pe_op op_mod (pe_callTy (KX.callInt (K := K)) (by rfl) T.b_int (by decide +kernel) (pa_cons (pv 4) pa_nil)) pe_int) (pe_op opMul pe_int (pv 3))) pe_int) pe_int) pa_nil)) pe_int))
      (pss_cons (ps_set (i := 6) sc__law_draw.nd rfl (Or.inl rfl) (pe_op op_mod (pe_callTy (KX.callInt (K := K)) (by rfl) T.b_int (by decide +kernel) (pa_cons (pe_op op_pow (pe_op opAdd (pe_op opAdd (pe_op opMul (pv 6) (pe_op opAdd (pe_op opMul pe_int (pv 3)) pe_int)) (pe_op opMul (pe_op opMul pe_int (pv 3)) (pv 3))) pe_int) pe_int) pa_nil)) pe_int))
      (pss_one (ps_ret (pe_op op_mod (pe_callTy (KX.callInt (K := K)) (by rfl) T.b_int (by decide +kernel) (pa_cons (pe_op op_fdivW (pv 6) pe_int) pa_nil)) (pv 1)))))))))))))), ?_⟩
    exact rd_drawS drawC hm hm2 ha hc hn hl k
theorem ok_pick {f : Addr} {fd : FuncData} (F : Fun K "_law_pick" "_law_pick" s__law_pick f fd) (T : Txt K mg cs CP CD fb) (c__law_draw : Fn P w K mg base CX0 1 "_law_draw" ["_law_pen_here", "_law_many"] spDraw) :
    FnG P w K mg base CX0 2 f fd ["_law_pen_here", "_law_some"] spPick := by
  refine funG F sc__law_pick (fun vs H Q E h => ?_) (fun cd A fr s H vs Q E hr hg h => ?_)
  · obtain ⟨a, l, n, xs, rfl, _⟩ := h; rfl
  · obtain ⟨a, l, n, xs, rfl, hl, hne, hlen, hp, hn, k⟩ := h
    refine ⟨_, (pss_one (ps_ret (pe_ix (KX.ixU (K := K)) (pv 1) (pe_f c__law_draw hr hg pass0 (pa_cons (pv 0) (pa_cons (pe_callB (KX.callLen (K := K)) (by rfl) T.b_len (by decide +kernel) (pa_cons (pv 1) pa_nil)) pa_nil))) (fun _ _ => rfl)))), ?_⟩
    tm_at "s"
    refine s_lenL hl ?_
    have hpos : 0 < xs.length := List.length_pos_iff.mpr hne
    refine ⟨a, n, _, rfl, by omega, ?_, hp, hn, fun d H' d0 d1 hp' hk => ?_⟩
    · rw [Int.natAbs_natCast]
      exact Nat.lt_of_le_of_lt hlen (Nat.lt_of_lt_of_le (by decide : 100000 < 2 ^ 20) (Nat.pow_le_pow_right (by decide) (by decide)))
    · have nl : l ≠ a := hp.ne hl fun c n z => by unfold PenO at z; cases z
      have hd : d.toNat < xs.length := by omega
      refine s_iL (v := xs[d.toNat]) (hk l _ nl hl) (by rw [atI_int d0 d1, List.getElem?_eq_getElem hd]) ?_
      exact k _ _ (List.getElem_mem hd) hp' hk
def spValue (Tt : List (Addr × Str)) : Sp := fun vs H Q _ => ∃ p n, vs = [.ref p] ∧ Wo Tt H p n ∧ n < lim ∧ ∀ v d H', Wo Tt H' p (n + 1) → (∀ b o, b ≠ p → H b = some o → H' b = some o) → Vd H' v d → v ≠ .ref p → VOk d → VSh d → Q v H'
abbrev s__law_value : Stmt := topS 43
abbrev names__law_value : List Str := ["_law_pen_here", "_law_some"]
theorem sc__law_value : FnScope ["_law_pen_here", "_law_some"] ["_law_pen_here"] (defScope s__law_value) := ⟨rfl, rfl, rfl, by decide +kernel, rfl, by decide +kernel, by decide +kernel⟩
theorem vok {d : PyData} (h : (d.showable && (decide (d.depth ≤ 3) && decide (d.shown.length ≤ 1000))) = true) : VOk d := by
  simp only [Bool.and_eq_true, decide_eq_true_eq] at h
  exact ⟨h.1, h.2.1, h.2.2⟩
theorem ok_value {f : Addr} {fd : FuncData} {Tt : List (Addr × Str)} (F : Fun K "_law_value" "_law_value" s__law_value f fd) (T : Txt K mg cs CP CD fb) (c__law_pick : Fn P w K mg base CX0 2 "_law_pick" ["_law_pen_here", "_law_some"] spPick) :
    FnG P w K mg base CX0 3 f fd ["_law_pen_here"] (spValue Tt) := by
  refine funG F sc__law_value (fun vs H Q E h => ?_) (fun cd A fr s H vs Q E hr hg h => ?_)
  · obtain ⟨p, n, rfl, _⟩ := h; rfl
  · obtain ⟨p, n, rfl, W, hn, k⟩ := h
    refine ⟨_, (pss_cons (ps_set (i := 1) sc__law_value.nd rfl (Or.inl rfl) (pe_lstN (pa_cons pe_non (pa_cons pe_bl (pa_cons pe_bl (pa_cons pe_int (pa_cons pe_int (pa_cons pe_int (pa_cons (pe_un un_neg pe_int) (pa_cons (pe_op op_pow pe_int pe_int) (pa_cons pe_str (pa_cons pe_str (pa_cons pe_str (pa_cons (pe_tup pa_nil) (pa_cons (pe_tup (pa_cons pe_str (pa_cons pe_int pa_nil))) (pa_cons (pe_lstN pa_nil) (pa_cons (pe_lstN (pa_cons pe_str pa_nil)) (pa_cons pe_dnewK (pa_cons (pe_disp (pps_cons pe_str pe_str pps_nil) (by rfl) (by rfl) (fun z => by cases z) (by decide)) (pa_cons pe_str pa_nil))))))))))))))))))))
      (pss_one (ps_ret (pe_f c__law_pick hr hg pass0 (pa_cons (pv 0) (pa_cons (pv 1) pa_nil)))))), ?_⟩
    tm_at "s"
    refine s_new (Nat.le_of_lt (small1000 (by simp))) fun q1 H1 hq1 e1 h1 => ?_
    tm_at "s"
    refine s_new (Nat.le_of_lt (small1000 (by simp))) fun q2 H2 hq2 e2 h2 => ?_
    tm_at "s"
    refine s_newN (Nat.le_of_lt (small1000 (by simp))) fun q3 H3 hq3 n3 e3 h3 => ?_
    tm_at "s"
    refine s_newN (Nat.le_of_lt (small1000 (by simp))) fun q4 H4 hq4 n4 e4 h4 => ?_
    tm_at "s"
    refine s_dnew fun q5 H5 hq5 e5 h5 => ?_
    tm_at "s"
    refine s_disp1 (k := .inr "a") (v' := .str "b") (fun _ _ h => h) (fun _ _ h => h) fun q6 H6 hq6 e6 h6 => ?_
    tm_at "s"
    refine s_newN (Nat.le_of_lt (small1000 (by simp))) fun q7 H7 hq7 n7 e7 h7 => ?_
    tm_at "s"
    have W7 := W.ex ((((((e1.trans e2).trans e3).trans e4).trans e5).trans e6).trans e7)
    have g1 := e7 _ _ (e6 _ _ (e5 _ _ (e4 _ _ (e3 _ _ (e2 _ _ h1)))))
    have g2 := e7 _ _ (e6 _ _ (e5 _ _ (e4 _ _ (e3 _ _ h2))))
    have g3 := e7 _ _ (e6 _ _ (e5 _ _ (e4 _ _ h3)))
    have g4 := e7 _ _ (e6 _ _ (e5 _ _ h4))
    have g5 := e7 _ _ (e6 _ _ h5)
    have g6 := e7 _ _ h6
    have ntp : ∀ {q : Addr} {o : HO}, H7 q = some o → (∀ c n, o ≠ PenO p c n) → q ≠ p := fun {q o} e d => W7.pen.ne e d
    have m1 := ntp g1 fun c n z => by unfold PenO at z; cases z
    have m2 := ntp g2 fun c n z => by unfold PenO at z; cases z
    have m3 := ntp g3 fun c n z => by unfold PenO at z; cases z
    have m4 := ntp g4 fun c n z => by unfold PenO at z; cases z
    have m5 := ntp g5 fun c n z => by unfold PenO at z; cases z
    have m6 := ntp g6 fun c n z => by unfold PenO at z; cases z
    refine ⟨p, q7, n, _, rfl, h7, by simp, by simp, W7.pen, hn, fun v H8 hv p8 k8 => ?_⟩
    have W8 := W7.keep p8 k8
    have kk : ∀ b o, b ≠ p → H b = some o → H8 b = some o := fun b o nb e => k8 _ _ nb (e7 _ _ (e6 _ _ (e5 _ _ (e4 _ _ (e3 _ _ (e2 _ _ (e1 _ _ e)))))))
    simp only [List.mem_cons, List.not_mem_nil, or_false] at hv
    rcases hv with rfl | rfl | rfl | rfl | rfl | rfl | rfl | rfl | rfl | rfl | rfl | rfl | rfl | rfl | rfl | rfl | rfl | rfl
    · exact k _ _ _ W8 kk .non (fun z => nomatch z) (vok (by decide +kernel)) ⟨by decide +kernel⟩
    · exact k _ _ _ W8 kk (.bl _) (fun z => nomatch z) (vok (by decide +kernel)) ⟨by decide +kernel⟩
    · exact k _ _ _ W8 kk (.bl _) (fun z => nomatch z) (vok (by decide +kernel)) ⟨by decide +kernel⟩
    · exact k _ _ _ W8 kk (.int _) (fun z => nomatch z) (vok (by decide +kernel)) ⟨by decide +kernel⟩
    · exact k _ _ _ W8 kk (.int _) (fun z => nomatch z) (vok (by decide +kernel)) ⟨by decide +kernel⟩
    · exact k _ _ _ W8 kk (.int _) (fun z => nomatch z) (vok (by decide +kernel)) ⟨by decide +kernel⟩
    · exact k _ _ _ W8 kk (.int _) (fun z => nomatch z) (vok (by decide +kernel)) ⟨by decide +kernel⟩
    · exact k _ _ _ W8 kk (.int _) (fun z => nomatch z) (vok (by decide +kernel)) ⟨by decide +kernel⟩
    · exact k _ _ _ W8 kk (.str _) (fun z => nomatch z) (vok (by decide +kernel)) ⟨by decide +kernel⟩
    · exact k _ _ _ W8 kk (.str _) (fun z => nomatch z) (vok (by decide +kernel)) ⟨by decide +kernel⟩
    · exact k _ _ _ W8 kk (.str _) (fun z => nomatch z) (vok (by decide +kernel)) ⟨by decide +kernel⟩
    · exact k _ _ _ W8 kk (.tup (k8 _ _ m1 g1) (by decide +kernel)) (fun z => m1 (V.ref.inj z)) (vok (by decide +kernel)) ⟨by decide +kernel⟩
    · exact k _ _ _ W8 kk (.tup (k8 _ _ m2 g2) (by decide +kernel)) (fun z => m2 (V.ref.inj z)) (vok (by decide +kernel)) ⟨by decide +kernel⟩
    · exact k _ _ _ W8 kk (.lst (k8 _ _ m3 g3) n3 (by decide +kernel)) (fun z => m3 (V.ref.inj z)) (vok (by decide +kernel)) ⟨by decide +kernel⟩
    · exact k _ _ _ W8 kk (.lst (k8 _ _ m4 g4) n4 (by decide +kernel)) (fun z => m4 (V.ref.inj z)) (vok (by decide +kernel)) ⟨by decide +kernel⟩
    · exact k _ _ _ W8 kk (.d0 (k8 _ _ m5 g5)) (fun z => m5 (V.ref.inj z)) (vok (by decide +kernel)) ⟨by decide +kernel⟩
    · exact k _ _ _ W8 kk (.d1 (k8 _ _ m6 g6)) (fun z => m6 (V.ref.inj z)) (vok (by decide +kernel)) ⟨by decide +kernel⟩
    · exact k _ _ _ W8 kk (.str _) (fun z => nomatch z) (vok (by decide +kernel)) ⟨by decide +kernel⟩
end
end K03
end
section
local macro_rules | `(tactic| tm_at "s1") => `(tactic| first
  | with_reducible first
    | refine L3.s_seq ?_ | refine L3.s_asg ?_ | refine L3.s_op ?_ | refine L3.s_c ?_ | refine L3.s_cb ?_ | refine L3.s_cons ?_ | refine L3.s_nil ?_ | refine L3.s_test ?_ | refine L3.s_bl ?_
    | refine L3.s_I0 ?_ | refine L3.s_and ?_ | refine L3.s_or ?_ | refine L3.s_not ?_ | refine L3.s_if ?_ | refine L3.s_next ?_ | refine L3.s_ret ?_ | refine L3.s_retN ?_ | refine L3.s_asgS ?_ | refine L3.s_drop ?_
    | refine L3.s_un ?_ | refine L3.s_U ?_ | refine L3.s_int ?_ | refine L3.s_intB ?_ | refine L3.s_abs ?_ | refine L3.s_andV ?_ | refine L3.s_orV ?_ | refine L3.s_notV ?_ | refine L3.s_ifE ?_ | refine L3.s_call ?_ | refine L3.s_lst ?_ | refine L3.s_tup ?_ | refine L3.s_tB ?_
    | refine L3.s_addI ?_ | refine L3.s_inS ?_ | refine L3.s_ninS ?_ | refine L3.s_slice ?_ | refine L3.s_part ?_ | refine L3.s_partI ?_ | refine L3.s_nopart ?_ | refine L3.s_cI ?_ | refine L3.s_cB ?_ | refine L3.s_chain ?_ | refine L3.s_bm ?_ | refine L3.s_lcS ?_ | refine L3.s_lcR ?_ | refine L3.s_strE ?_
    | refine L2.iteT ?_ | refine L2.iteF ?_ | refine L3.iteNF ?_ | refine L3.iteNT ?_
    | refine L3.s_eqI ?_ | refine L3.s_neI ?_ | refine L3.s_eqS ?_ | refine L3.s_neS ?_
    | refine L3.s_pair ?_ | refine L3.s_pair2 ?_ | refine L3.s_fld ?_ | refine L3.s_make ?_ | refine L3.s_m1 ?_ | refine L3.s_isstr ?_
    | refine L3.s_xfV ?_ | refine L3.s_lstN ?_ | refine L3.s_callF ?_ | refine L3.s_lcL ?_ | refine L3.s_par3 ?_ | refine L3.s_trip ?_ | refine L3.s_asgT' ?_ | refine L3.s_gC ?_ | refine L3.s_gN ?_ | refine L3.s_fldG ?_ | refine L3.s_raise1 ?_
    | refine L3.s_isN ?_ | refine L3.s_isB ?_ | refine L3.s_nisN ?_ | refine L3.s_nisB ?_
  | ((with_reducible refine' L3.s_var ?e ?_); (case e => rfl))
  | ((with_reducible refine' L3.s_aug ?e ?_); (case e => rfl))
  | ((with_reducible refine' L3.s_pow ?c ?_); (case c => exact ⟨by decide, by decide, by decide⟩)))
local macro_rules | `(tactic| tm_at "s") => `(tactic| repeat tm_at "s1")
namespace K03
open PySem PySem.Spec PyProof.Rows L2 L3 LamX
abbrev s_Fewest___init__ : Stmt := inClass (topS 4) 0
abbrev names_Fewest___init__ : List Str := ["self", "chunks"]
theorem sc_Fewest___init__ : FnScope ["self", "chunks"] ["self", "chunks"] (defScope s_Fewest___init__) := ⟨rfl, rfl, rfl, by decide +kernel, rfl, by decide +kernel, by decide +kernel⟩
abbrev s_NoList___init__ : Stmt := inClass (topS 5) 0
abbrev names_NoList___init__ : List Str := ["self", "rests"]
theorem sc_NoList___init__ : FnScope ["self", "rests"] ["self", "rests"] (defScope s_NoList___init__) := ⟨rfl, rfl, rfl, by decide +kernel, rfl, by decide +kernel, by decide +kernel⟩
abbrev s_Greatest___init__ : Stmt := inClass (topS 6) 0
abbrev names_Greatest___init__ : List Str := ["self", "total", "chunks"]
theorem sc_Greatest___init__ : FnScope ["self", "total", "chunks"] ["self", "total", "chunks"] (defScope s_Greatest___init__) := ⟨rfl, rfl, rfl, by decide +kernel, rfl, by decide +kernel, by decide +kernel⟩
abbrev s_Least___init__ : Stmt := inClass (topS 7) 0
abbrev names_Least___init__ : List Str := ["self", "limit", "chunks", "below"]
theorem sc_Least___init__ : FnScope ["self", "limit", "chunks", "below"] ["self", "limit", "chunks", "below"] (defScope s_Least___init__) := ⟨rfl, rfl, rfl, by decide +kernel, rfl, by decide +kernel, by decide +kernel⟩
abbrev s_BatchBound___init__ : Stmt := inClass (topS 9) 0
abbrev names_BatchBound___init__ : List Str := ["self", "late", "rest", "spot"]
theorem sc_BatchBound___init__ : FnScope ["self", "late", "rest", "spot"] ["self", "late", "rest", "spot"] (defScope s_BatchBound___init__) := ⟨rfl, rfl, rfl, by decide +kernel, rfl, by decide +kernel, by decide +kernel⟩
abbrev s_BatchEndless___init__ : Stmt := inClass (topS 10) 0
abbrev names_BatchEndless___init__ : List Str := ["self", "spot", "rise"]
theorem sc_BatchEndless___init__ : FnScope ["self", "spot", "rise"] ["self", "spot", "rise"] (defScope s_BatchEndless___init__) := ⟨rfl, rfl, rfl, by decide +kernel, rfl, by decide +kernel, by decide +kernel⟩
abbrev s_NeverLess___init__ : Stmt := inClass (topS 12) 0
abbrev names_NeverLess___init__ : List Str := ["self", "begins"]
theorem sc_NeverLess___init__ : FnScope ["self", "begins"] ["self", "begins"] (defScope s_NeverLess___init__) := ⟨rfl, rfl, rfl, by decide +kernel, rfl, by decide +kernel, by decide +kernel⟩
abbrev s_Less___init__ : Stmt := inClass (topS 13) 0
abbrev names_Less___init__ : List Str := ["self", "rest"]
theorem sc_Less___init__ : FnScope ["self", "rest"] ["self", "rest"] (defScope s_Less___init__) := ⟨rfl, rfl, rfl, by decide +kernel, rfl, by decide +kernel, by decide +kernel⟩
abbrev s_Steady___init__ : Stmt := inClass (topS 14) 0
abbrev names_Steady___init__ : List Str := ["self", "begins"]
theorem sc_Steady___init__ : FnScope ["self", "begins"] ["self", "begins"] (defScope s_Steady___init__) := ⟨rfl, rfl, rfl, by decide +kernel, rfl, by decide +kernel, by decide +kernel⟩
abbrev s_Jump___init__ : Stmt := inClass (topS 15) 0
abbrev names_Jump___init__ : List Str := ["self", "rest"]
theorem sc_Jump___init__ : FnScope ["self", "rest"] ["self", "rest"] (defScope s_Jump___init__) := ⟨rfl, rfl, rfl, by decide +kernel, rfl, by decide +kernel, by decide +kernel⟩
abbrev s_Same___init__ : Stmt := inClass (topS 16) 0
abbrev names_Same___init__ : List Str := ["self", "first", "last"]
theorem sc_Same___init__ : FnScope ["self", "first", "last"] ["self", "first", "last"] (defScope s_Same___init__) := ⟨rfl, rfl, rfl, by decide +kernel, rfl, by decide +kernel, by decide +kernel⟩
abbrev s_Other___init__ : Stmt := inClass (topS 17) 0
abbrev names_Other___init__ : List Str := ["self", "rest"]
theorem sc_Other___init__ : FnScope ["self", "rest"] ["self", "rest"] (defScope s_Other___init__) := ⟨rfl, rfl, rfl, by decide +kernel, rfl, by decide +kernel, by decide +kernel⟩
abbrev s_Surely___init__ : Stmt := inClass (topS 18) 0
abbrev names_Surely___init__ : List Str := ["self", "never", "steady"]
theorem sc_Surely___init__ : FnScope ["self", "never", "steady"] ["self", "never", "steady"] (defScope s_Surely___init__) := ⟨rfl, rfl, rfl, by decide +kernel, rfl, by decide +kernel, by decide +kernel⟩
abbrev s_Counter___init__ : Stmt := inClass (topS 19) 0
abbrev names_Counter___init__ : List Str := ["self", "total", "counts"]
theorem sc_Counter___init__ : FnScope ["self", "total", "counts"] ["self", "total", "counts"] (defScope s_Counter___init__) := ⟨rfl, rfl, rfl, by decide +kernel, rfl, by decide +kernel, by decide +kernel⟩
abbrev s_Undecided___init__ : Stmt := inClass (topS 20) 0
abbrev names_Undecided___init__ : List Str := ["self", "upto"]
theorem sc_Undecided___init__ : FnScope ["self", "upto"] ["self", "upto"] (defScope s_Undecided___init__) := ⟨rfl, rfl, rfl, by decide +kernel, rfl, by decide +kernel, by decide +kernel⟩
abbrev s_Bound___init__ : Stmt := inClass (topS 22) 0
abbrev names_Bound___init__ : List Str := ["self", "late", "rest"]
theorem sc_Bound___init__ : FnScope ["self", "late", "rest"] ["self", "late", "rest"] (defScope s_Bound___init__) := ⟨rfl, rfl, rfl, by decide +kernel, rfl, by decide +kernel, by decide +kernel⟩
abbrev s_Endless___init__ : Stmt := inClass (topS 23) 0
abbrev names_Endless___init__ : List Str := ["self", "residue", "begin"]
theorem sc_Endless___init__ : FnScope ["self", "residue", "begin"] ["self", "residue", "begin"] (defScope s_Endless___init__) := ⟨rfl, rfl, rfl, by decide +kernel, rfl, by decide +kernel, by decide +kernel⟩
abbrev s_Within___init__ : Stmt := inClass (topS 24) 0
abbrev names_Within___init__ : List Str := ["self", "table"]
theorem sc_Within___init__ : FnScope ["self", "table"] ["self", "table"] (defScope s_Within___init__) := ⟨rfl, rfl, rfl, by decide +kernel, rfl, by decide +kernel, by decide +kernel⟩
abbrev s_Beyond___init__ : Stmt := inClass (topS 25) 0
abbrev names_Beyond___init__ : List Str := ["self", "rest", "late"]
theorem sc_Beyond___init__ : FnScope ["self", "rest", "late"] ["self", "rest", "late"] (defScope s_Beyond___init__) := ⟨rfl, rfl, rfl, by decide +kernel, rfl, by decide +kernel, by decide +kernel⟩
abbrev s_Latest___init__ : Stmt := inClass (topS 27) 0
abbrev names_Latest___init__ : List Str := ["self", "late", "at", "world"]
theorem sc_Latest___init__ : FnScope ["self", "late", "at", "world"] ["self", "late", "at", "world"] (defScope s_Latest___init__) := ⟨rfl, rfl, rfl, by decide +kernel, rfl, by decide +kernel, by decide +kernel⟩
abbrev s_Taking___init__ : Stmt := inClass (topS 29) 0
abbrev names_Taking___init__ : List Str := ["self", "worker", "at", "begun", "ended"]
theorem sc_Taking___init__ : FnScope ["self", "worker", "at", "begun", "ended"] ["self", "worker", "at", "begun", "ended"] (defScope s_Taking___init__) := ⟨rfl, rfl, rfl, by decide +kernel, rfl, by decide +kernel, by decide +kernel⟩
abbrev s_Fits___init__ : Stmt := inClass (topS 31) 0
abbrev names_Fits___init__ : List Str := ["self", "world"]
theorem sc_Fits___init__ : FnScope ["self", "world"] ["self", "world"] (defScope s_Fits___init__) := ⟨rfl, rfl, rfl, by decide +kernel, rfl, by decide +kernel, by decide +kernel⟩
abbrev s_Misfit___init__ : Stmt := inClass (topS 32) 0
abbrev names_Misfit___init__ : List Str := ["self", "at", "why"]
theorem sc_Misfit___init__ : FnScope ["self", "at", "why"] ["self", "at", "why"] (defScope s_Misfit___init__) := ⟨rfl, rfl, rfl, by decide +kernel, rfl, by decide +kernel, by decide +kernel⟩
abbrev s_Ring___init__ : Stmt := inClass (topS 33) 0
abbrev names_Ring___init__ : List Str := ["self", "workers"]
theorem sc_Ring___init__ : FnScope ["self", "workers"] ["self", "workers"] (defScope s_Ring___init__) := ⟨rfl, rfl, rfl, by decide +kernel, rfl, by decide +kernel, by decide +kernel⟩
abbrev s_Came___init__ : Stmt := inClass (topS 34) 0
abbrev names_Came___init__ : List Str := ["self", "least", "most"]
theorem sc_Came___init__ : FnScope ["self", "least", "most"] ["self", "least", "most"] (defScope s_Came___init__) := ⟨rfl, rfl, rfl, by decide +kernel, rfl, by decide +kernel, by decide +kernel⟩
abbrev s_BestOrder___init__ : Stmt := inClass (topS 36) 0
abbrev names_BestOrder___init__ : List Str := ["self", "names", "late", "last"]
theorem sc_BestOrder___init__ : FnScope ["self", "names", "late", "last"] ["self", "names", "late", "last"] (defScope s_BestOrder___init__) := ⟨rfl, rfl, rfl, by decide +kernel, rfl, by decide +kernel, by decide +kernel⟩
abbrev s_PoolTaking___init__ : Stmt := inClass (topS 38) 0
abbrev names_PoolTaking___init__ : List Str := ["self", "loop", "worker", "many", "begun", "ended"]
theorem sc_PoolTaking___init__ : FnScope ["self", "loop", "worker", "many", "begun", "ended"] ["self", "loop", "worker", "many", "begun", "ended"] (defScope s_PoolTaking___init__) := ⟨rfl, rfl, rfl, by decide +kernel, rfl, by decide +kernel, by decide +kernel⟩
section
variable {P : Program} {w : World} {K : PySem.W.Frag} {mg : Str → Option Value} {base : Heap} {cs : List Addr} {CP CD fb : Addr}
theorem ok_init_Fewest {f : Addr} {fd : FuncData} (F : Fun K "__init__" "Fewest.__init__" s_Fewest___init__ f fd) (T : Txt K mg cs CP CD fb) : FnOk P w K mg base (L2.CX P w) 1 f fd ["self", "chunks"] (spInit (cs.getD 0 0) ["chunks"]) := by
  refine funO F sc_Fewest___init__ (fun vs H Q E h => ?_) (fun cd A fr s H vs Q E hr h => ?_)
  · obtain ⟨p, dx, xs, rfl, hl, _⟩ := h; rw [List.length_cons, hl]; rfl
  · obtain ⟨p, dx, xs, rfl, hl, hp, m⟩ := h
    match xs, hl, m with
    | [x0], _, m =>
      refine ⟨_, (pss_one (ps_fld (pv 0) (pv 1) rfl)), ?_⟩
      tm_at "s"
      refine ⟨p, _, dx, _, rfl, hp, T.cl 0 (by decide), T.fld 0 (by decide) "chunks" (by decide), (by show 0 < 1000; decide), ?_⟩
      exact m _ (fun c o h1 e => by rw [upd_ne h1]; exact e) upd_same
theorem ok_init_NoList {f : Addr} {fd : FuncData} (F : Fun K "__init__" "NoList.__init__" s_NoList___init__ f fd) (T : Txt K mg cs CP CD fb) : FnOk P w K mg base (L2.CX P w) 1 f fd ["self", "rests"] (spInit (cs.getD 1 0) ["rests"]) := by
  refine funO F sc_NoList___init__ (fun vs H Q E h => ?_) (fun cd A fr s H vs Q E hr h => ?_)
  · obtain ⟨p, dx, xs, rfl, hl, _⟩ := h; rw [List.length_cons, hl]; rfl
  · obtain ⟨p, dx, xs, rfl, hl, hp, m⟩ := h
    match xs, hl, m with
    | [x0], _, m =>
      refine ⟨_, (pss_one (ps_fld (pv 0) (pv 1) rfl)), ?_⟩
      tm_at "s"
      refine ⟨p, _, dx, _, rfl, hp, T.cl 1 (by decide), T.fld 1 (by decide) "rests" (by decide), (by show 0 < 1000; decide), ?_⟩
      exact m _ (fun c o h1 e => by rw [upd_ne h1]; exact e) upd_same
theorem ok_init_Greatest {f : Addr} {fd : FuncData} (F : Fun K "__init__" "Greatest.__init__" s_Greatest___init__ f fd) (T : Txt K mg cs CP CD fb) : FnOk P w K mg base (L2.CX P w) 1 f fd ["self", "total", "chunks"] (spInit (cs.getD 2 0) ["total", "chunks"]) := by
  refine funO F sc_Greatest___init__ (fun vs H Q E h => ?_) (fun cd A fr s H vs Q E hr h => ?_)
  · obtain ⟨p, dx, xs, rfl, hl, _⟩ := h; rw [List.length_cons, hl]; rfl
  · obtain ⟨p, dx, xs, rfl, hl, hp, m⟩ := h
    match xs, hl, m with
    | [x0, x1], _, m =>
      refine ⟨_, (pss_cons (ps_fld (pv 0) (pv 1) rfl)
      (pss_one (ps_fld (pv 0) (pv 2) rfl))), ?_⟩
      tm_at "s"
      refine ⟨p, _, dx, _, rfl, hp, T.cl 2 (by decide), T.fld 2 (by decide) "total" (by decide), (by show 0 < 1000; decide), ?_⟩
      tm_at "s"
      refine ⟨p, _, dx, _, rfl, upd_same, T.cl 2 (by decide), T.fld 2 (by decide) "chunks" (by decide), (by show 1 < 1000; decide), ?_⟩
      exact m _ (fun c o h1 e => by rw [upd_ne h1, upd_ne h1]; exact e) upd_same
theorem ok_init_Least {f : Addr} {fd : FuncData} (F : Fun K "__init__" "Least.__init__" s_Least___init__ f fd) (T : Txt K mg cs CP CD fb) : FnOk P w K mg base (L2.CX P w) 1 f fd ["self", "limit", "chunks", "below"] (spInit (cs.getD 3 0) ["limit", "chunks", "below"]) := by
  refine funO F sc_Least___init__ (fun vs H Q E h => ?_) (fun cd A fr s H vs Q E hr h => ?_)
  · obtain ⟨p, dx, xs, rfl, hl, _⟩ := h; rw [List.length_cons, hl]; rfl
  · obtain ⟨p, dx, xs, rfl, hl, hp, m⟩ := h
    match xs, hl, m with
    | [x0, x1, x2], _, m =>
      refine ⟨_, (pss_cons (ps_fld (pv 0) (pv 1) rfl)
      (pss_cons (ps_fld (pv 0) (pv 2) rfl)
      (pss_one (ps_fld (pv 0) (pv 3) rfl)))), ?_⟩
      tm_at "s"
      refine ⟨p, _, dx, _, rfl, hp, T.cl 3 (by decide), T.fld 3 (by decide) "limit" (by decide), (by show 0 < 1000; decide), ?_⟩
      tm_at "s"
      refine ⟨p, _, dx, _, rfl, upd_same, T.cl 3 (by decide), T.fld 3 (by decide) "chunks" (by decide), (by show 1 < 1000; decide), ?_⟩
      tm_at "s"
      refine ⟨p, _, dx, _, rfl, upd_same, T.cl 3 (by decide), T.fld 3 (by decide) "below" (by decide), (by show 2 < 1000; decide), ?_⟩
      exact m _ (fun c o h1 e => by rw [upd_ne h1, upd_ne h1, upd_ne h1]; exact e) upd_same
theorem ok_init_BatchBound {f : Addr} {fd : FuncData} (F : Fun K "__init__" "BatchBound.__init__" s_BatchBound___init__ f fd) (T : Txt K mg cs CP CD fb) : FnOk P w K mg base (L2.CX P w) 1 f fd ["self", "late", "rest", "spot"] (spInit (cs.getD 4 0) ["late", "rest", "spot"]) := by
  refine funO F sc_BatchBound___init__ (fun vs H Q E h => ?_) (fun cd A fr s H vs Q E hr h => ?_)
  · obtain ⟨p, dx, xs, rfl, hl, _⟩ := h; rw [List.length_cons, hl]; rfl
  · obtain ⟨p, dx, xs, rfl, hl, hp, m⟩ := h
    match xs, hl, m with
    | [x0, x1, x2], _, m =>
      refine ⟨_, (pss_cons (ps_fld (pv 0) (pv 1) rfl)
      (pss_cons (ps_fld (pv 0) (pv 2) rfl)
      (pss_one (ps_fld (pv 0) (pv 3) rfl)))), ?_⟩
      tm_at "s"
      refine ⟨p, _, dx, _, rfl, hp, T.cl 4 (by decide), T.fld 4 (by decide) "late" (by decide), (by show 0 < 1000; decide), ?_⟩
      tm_at "s"
      refine ⟨p, _, dx, _, rfl, upd_same, T.cl 4 (by decide), T.fld 4 (by decide) "rest" (by decide), (by show 1 < 1000; decide), ?_⟩
      tm_at "s"
      refine ⟨p, _, dx, _, rfl, upd_same, T.cl 4 (by decide), T.fld 4 (by decide) "spot" (by decide), (by show 2 < 1000; decide), ?_⟩
      exact m _ (fun c o h1 e => by rw [upd_ne h1, upd_ne h1, upd_ne h1]; exact e) upd_same
theorem ok_init_BatchEndless {f : Addr} {fd : FuncData} (F : Fun K "__init__" "BatchEndless.__init__" s_BatchEndless___init__ f fd) (T : Txt K mg cs CP CD fb) : FnOk P w K mg base (L2.CX P w) 1 f fd ["self", "spot", "rise"] (spInit (cs.getD 5 0) ["spot", "rise"]) := by
  refine funO F sc_BatchEndless___init__ (fun vs H Q E h => ?_) (fun cd A fr s H vs Q E hr h => ?_)
  · obtain ⟨p, dx, xs, rfl, hl, _⟩ := h; rw [List.length_cons, hl]; rfl
  · obtain ⟨p, dx, xs, rfl, hl, hp, m⟩ := h
    match xs, hl, m with
    | [x0, x1], _, m =>
      refine ⟨_, (pss_cons (ps_fld (pv 0) (pv 1) rfl)
      (pss_one (ps_fld (pv 0) (pv 2) rfl))), ?_⟩
      tm_at "s"
      refine ⟨p, _, dx, _, rfl, hp, T.cl 5 (by decide), T.fld 5 (by decide) "spot" (by decide), (by show 0 < 1000; decide), ?_⟩
      tm_at "s"
      refine ⟨p, _, dx, _, rfl, upd_same, T.cl 5 (by decide), T.fld 5 (by decide) "rise" (by decide), (by show 1 < 1000; decide), ?_⟩
      exact m _ (fun c o h1 e => by rw [upd_ne h1, upd_ne h1]; exact e) upd_same
theorem ok_init_NeverLess {f : Addr} {fd : FuncData} (F : Fun K "__init__" "NeverLess.__init__" s_NeverLess___init__ f fd) (T : Txt K mg cs CP CD fb) : FnOk P w K mg base (L2.CX P w) 1 f fd ["self", "begins"] (spInit (cs.getD 6 0) ["begins"]) := by
  refine funO F sc_NeverLess___init__ (fun vs H Q E h => ?_) (fun cd A fr s H vs Q E hr h => ?_)
  · obtain ⟨p, dx, xs, rfl, hl, _⟩ := h; rw [List.length_cons, hl]; rfl
  · obtain ⟨p, dx, xs, rfl, hl, hp, m⟩ := h
    match xs, hl, m with
    | [x0], _, m =>
      refine ⟨_, (pss_one (ps_fld (pv 0) (pv 1) rfl)), ?_⟩
      tm_at "s"
      refine ⟨p, _, dx, _, rfl, hp, T.cl 6 (by decide), T.fld 6 (by decide) "begins" (by decide), (by show 0 < 1000; decide), ?_⟩
      exact m _ (fun c o h1 e => by rw [upd_ne h1]; exact e) upd_same
theorem ok_init_Less {f : Addr} {fd : FuncData} (F : Fun K "__init__" "Less.__init__" s_Less___init__ f fd) (T : Txt K mg cs CP CD fb) : FnOk P w K mg base (L2.CX P w) 1 f fd ["self", "rest"] (spInit (cs.getD 7 0) ["rest"]) := by
  refine funO F sc_Less___init__ (fun vs H Q E h => ?_) (fun cd A fr s H vs Q E hr h => ?_)
  · obtain ⟨p, dx, xs, rfl, hl, _⟩ := h; rw [List.length_cons, hl]; rfl
  · obtain ⟨p, dx, xs, rfl, hl, hp, m⟩ := h
    match xs, hl, m with
    | [x0], _, m =>
      refine ⟨_, (pss_one (ps_fld (pv 0) (pv 1) rfl)), ?_⟩
      tm_at "s"
      refine ⟨p, _, dx, _, rfl, hp, T.cl 7 (by decide), T.fld 7 (by decide) "rest" (by decide), (by show 0 < 1000; decide), ?_⟩
      exact m _ (fun c o h1 e => by rw [upd_ne h1]; exact e) upd_same
theorem ok_init_Steady {f : Addr} {fd : FuncData} (F : Fun K "__init__" "Steady.__init__" s_Steady___init__ f fd) (T : Txt K mg cs CP CD fb) : FnOk P w K mg base (L2.CX P w) 1 f fd ["self", "begins"] (spInit (cs.getD 8 0) ["begins"]) := by
  refine funO F sc_Steady___init__ (fun vs H Q E h => ?_) (fun cd A fr s H vs Q E hr h => ?_)
  · obtain ⟨p, dx, xs, rfl, hl, _⟩ := h; rw [List.length_cons, hl]; rfl
  · obtain ⟨p, dx, xs, rfl, hl, hp, m⟩ := h
    match xs, hl, m with
    | [x0], _, m =>
      refine ⟨_, (pss_one (ps_fld (pv 0) (pv 1) rfl)), ?_⟩
      tm_at "s"
      refine ⟨p, _, dx, _, rfl, hp, T.cl 8 (by decide), T.fld 8 (by decide) "begins" (by decide), (by show 0 < 1000; decide), ?_⟩
      exact m _ (fun c o h1 e => by rw [upd_ne h1]; exact e) upd_same
theorem ok_init_Jump {f : Addr} {fd : FuncData} (F : Fun K "__init__" "Jump.__init__" s_Jump___init__ f fd) (T : Txt K mg cs CP CD fb) : FnOk P w K mg base (L2.CX P w) 1 f fd ["self", "rest"] (spInit (cs.getD 9 0) ["rest"]) := by
  refine funO F sc_Jump___init__ (fun vs H Q E h => ?_) (fun cd A fr s H vs Q E hr h => ?_)
  · obtain ⟨p, dx, xs, rfl, hl, _⟩ := h; rw [List.length_cons, hl]; rfl
  · obtain ⟨p, dx, xs, rfl, hl, hp, m⟩ := h
    match xs, hl, m with
    | [x0], _, m =>
      refine ⟨_, (pss_one (ps_fld (pv 0) (pv 1) rfl)), ?_⟩
      tm_at "s"
      refine ⟨p, _, dx, _, rfl, hp, T.cl 9 (by decide), T.fld 9 (by decide) "rest" (by decide), (by show 0 < 1000; decide), ?_⟩
      exact m _ (fun c o h1 e => by rw [upd_ne h1]; exact e) upd_same
theorem ok_init_Same {f : Addr} {fd : FuncData} (F : Fun K "__init__" "Same.__init__" s_Same___init__ f fd) (T : Txt K mg cs CP CD fb) : FnOk P w K mg base (L2.CX P w) 1 f fd ["self", "first", "last"] (spInit (cs.getD 10 0) ["first", "last"]) := by
  refine funO F sc_Same___init__ (fun vs H Q E h => ?_) (fun cd A fr s H vs Q E hr h => ?_)
  · obtain ⟨p, dx, xs, rfl, hl, _⟩ := h; rw [List.length_cons, hl]; rfl
  · obtain ⟨p, dx, xs, rfl, hl, hp, m⟩ := h
    match xs, hl, m with
    | [x0, x1], _, m =>
      refine ⟨_, (pss_cons (ps_fld (pv 0) (pv 1) rfl)
      (pss_one (ps_fld (pv 0) (pv 2) rfl))), ?_⟩
      tm_at "s"
      refine ⟨p, _, dx, _, rfl, hp, T.cl 10 (by decide), T.fld 10 (by decide) "first" (by decide), (by show 0 < 1000; decide), ?_⟩
      tm_at "s"
      refine ⟨p, _, dx, _, rfl, upd_same, T.cl 10 (by decide), T.fld 10 (by decide) "last" (by decide), (by show 1 < 1000; decide), ?_⟩
      exact m _ (fun c o h1 e => by rw [upd_ne h1, upd_ne h1]; exact e) upd_same
theorem ok_init_Other {f : Addr} {fd : FuncData} (F : Fun K "__init__" "Other.__init__" s_Other___init__ f fd) (T : Txt K mg cs CP CD fb) : FnOk P w K mg base (L2.CX P w) 1 f fd ["self", "rest"] (spInit (cs.getD 11 0) ["rest"]) := by
  refine funO F sc_Other___init__ (fun vs H Q E h => ?_) (fun cd A fr s H vs Q E hr h => ?_)
  · obtain ⟨p, dx, xs, rfl, hl, _⟩ := h; rw [List.length_cons, hl]; rfl
  · obtain ⟨p, dx, xs, rfl, hl, hp, m⟩ := h
    match xs, hl, m with
    | [x0], _, m =>
      refine ⟨_, (pss_one (ps_fld (pv 0) (pv 1) rfl)), ?_⟩
      tm_at "s"
      refine ⟨p, _, dx, _, rfl, hp, T.cl 11 (by decide), T.fld 11 (by decide) "rest" (by decide), (by show 0 < 1000; decide), ?_⟩
      exact m _ (fun c o h1 e => by rw [upd_ne h1]; exact e) upd_same
theorem ok_init_Surely {f : Addr} {fd : FuncData} (F : Fun K "__init__" "Surely.__init__" s_Surely___init__ f fd) (T : Txt K mg cs CP CD fb) : FnOk P w K mg base (L2.CX P w) 1 f fd ["self", "never", "steady"] (spInit (cs.getD 12 0) ["never", "steady"]) := by
  refine funO F sc_Surely___init__ (fun vs H Q E h => ?_) (fun cd A fr s H vs Q E hr h => ?_)
  · obtain ⟨p, dx, xs, rfl, hl, _⟩ := h; rw [List.length_cons, hl]; rfl
  · obtain ⟨p, dx, xs, rfl, hl, hp, m⟩ := h
    match xs, hl, m with
    | [x0, x1], _, m =>
      refine ⟨_, (pss_cons (ps_fld (pv 0) (pv 1) rfl)
      (pss_one (ps_fld (pv 0) (pv 2) rfl))), ?_⟩
      tm_at "s"
      refine ⟨p, _, dx, _, rfl, hp, T.cl 12 (by decide), T.fld 12 (by decide) "never" (by decide), (by show 0 < 1000; decide), ?_⟩
      tm_at "s"
      refine ⟨p, _, dx, _, rfl, upd_same, T.cl 12 (by decide), T.fld 12 (by decide) "steady" (by decide), (by show 1 < 1000; decide), ?_⟩
      exact m _ (fun c o h1 e => by rw [upd_ne h1, upd_ne h1]; exact e) upd_same
theorem ok_init_Counter {f : Addr} {fd : FuncData} (F : Fun K "__init__" "Counter.__init__" s_Counter___init__ f fd) (T : Txt K mg cs CP CD fb) : FnOk P w K mg base (L2.CX P w) 1 f fd ["self", "total", "counts"] (spInit (cs.getD 13 0) ["total", "counts"]) := by
  refine funO F sc_Counter___init__ (fun vs H Q E h => ?_) (fun cd A fr s H vs Q E hr h => ?_)
  · obtain ⟨p, dx, xs, rfl, hl, _⟩ := h; rw [List.length_cons, hl]; rfl
  · obtain ⟨p, dx, xs, rfl, hl, hp, m⟩ := h
    match xs, hl, m with
    | [x0, x1], _, m =>
      refine ⟨_, (pss_cons (ps_fld (pv 0) (pv 1) rfl)
      (pss_one (ps_fld (pv 0) (pv 2) rfl))), ?_⟩
      tm_at "s"
      refine ⟨p, _, dx, _, rfl, hp, T.cl 13 (by decide), T.fld 13 (by decide) "total" (by decide), (by show 0 < 1000; decide), ?_⟩
      tm_at "s"
      refine ⟨p, _, dx, _, rfl, upd_same, T.cl 13 (by decide), T.fld 13 (by decide) "counts" (by decide), (by show 1 < 1000; decide), ?_⟩
      exact m _ (fun c o h1 e => by rw [upd_ne h1, upd_ne h1]; exact e) upd_same
theorem ok_init_Undecided {f : Addr} {fd : FuncData} (F : Fun K "__init__" "Undecided.__init__" s_Undecided___init__ f fd) (T : Txt K mg cs CP CD fb) : FnOk P w K mg base (L2.CX P w) 1 f fd ["self", "upto"] (spInit (cs.getD 14 0) ["upto"]) := by
  refine funO F sc_Undecided___init__ (fun vs H Q E h => ?_) (fun cd A fr s H vs Q E hr h => ?_)
  · obtain ⟨p, dx, xs, rfl, hl, _⟩ := h; rw [List.length_cons, hl]; rfl
  · obtain ⟨p, dx, xs, rfl, hl, hp, m⟩ := h
    match xs, hl, m with
    | [x0], _, m =>
      refine ⟨_, (pss_one (ps_fld (pv 0) (pv 1) rfl)), ?_⟩
      tm_at "s"
      refine ⟨p, _, dx, _, rfl, hp, T.cl 14 (by decide), T.fld 14 (by decide) "upto" (by decide), (by show 0 < 1000; decide), ?_⟩
      exact m _ (fun c o h1 e => by rw [upd_ne h1]; exact e) upd_same
theorem ok_init_Bound {f : Addr} {fd : FuncData} (F : Fun K "__init__" "Bound.__init__" s_Bound___init__ f fd) (T : Txt K mg cs CP CD fb) : FnOk P w K mg base (L2.CX P w) 1 f fd ["self", "late", "rest"] (spInit (cs.getD 15 0) ["late", "rest"]) := by
  refine funO F sc_Bound___init__ (fun vs H Q E h => ?_) (fun cd A fr s H vs Q E hr h => ?_)
  · obtain ⟨p, dx, xs, rfl, hl, _⟩ := h; rw [List.length_cons, hl]; rfl
  · obtain ⟨p, dx, xs, rfl, hl, hp, m⟩ := h
    match xs, hl, m with
    | [x0, x1], _, m =>
      refine ⟨_, (pss_cons (ps_fld (pv 0) (pv 1) rfl)
      (pss_one (ps_fld (pv 0) (pv 2) rfl))), ?_⟩
      tm_at "s"
      refine ⟨p, _, dx, _, rfl, hp, T.cl 15 (by decide), T.fld 15 (by decide) "late" (by decide), (by show 0 < 1000; decide), ?_⟩
      tm_at "s"
      refine ⟨p, _, dx, _, rfl, upd_same, T.cl 15 (by decide), T.fld 15 (by decide) "rest" (by decide), (by show 1 < 1000; decide), ?_⟩
      exact m _ (fun c o h1 e => by rw [upd_ne h1, upd_ne h1]; exact e) upd_same
theorem ok_init_Endless {f : Addr} {fd : FuncData} (F : Fun K "__init__" "Endless.__init__" s_Endless___init__ f fd) (T : Txt K mg cs CP CD fb) : FnOk P w K mg base (L2.CX P w) 1 f fd ["self", "residue", "begin"] (spInit (cs.getD 16 0) ["residue", "begin"]) := by
  refine funO F sc_Endless___init__ (fun vs H Q E h => ?_) (fun cd A fr s H vs Q E hr h => ?_)
  · obtain ⟨p, dx, xs, rfl, hl, _⟩ := h; rw [List.length_cons, hl]; rfl
  · obtain ⟨p, dx, xs, rfl, hl, hp, m⟩ := h
    match xs, hl, m with
    | [x0, x1], _, m =>
      refine ⟨_, (pss_cons (ps_fld (pv 0) (pv 1) rfl)
      (pss_one (ps_fld (pv 0) (pv 2) rfl))), ?_⟩
      tm_at "s"
      refine ⟨p, _, dx, _, rfl, hp, T.cl 16 (by decide), T.fld 16 (by decide) "residue" (by decide), (by show 0 < 1000; decide), ?_⟩
      tm_at "s"
      refine ⟨p, _, dx, _, rfl, upd_same, T.cl 16 (by decide), T.fld 16 (by decide) "begin" (by decide), (by show 1 < 1000; decide), ?_⟩
      exact m _ (fun c o h1 e => by rw [upd_ne h1, upd_ne h1]; exact e) upd_same
theorem ok_init_Within {f : Addr} {fd : FuncData} (F : Fun K "__init__" "Within.__init__" s_Within___init__ f fd) (T : Txt K mg cs CP CD fb) : FnOk P w K mg base (L2.CX P w) 1 f fd ["self", "table"] (spInit (cs.getD 17 0) ["table"]) := by
  refine funO F sc_Within___init__ (fun vs H Q E h => ?_) (fun cd A fr s H vs Q E hr h => ?_)
  · obtain ⟨p, dx, xs, rfl, hl, _⟩ := h; rw [List.length_cons, hl]; rfl
  · obtain ⟨p, dx, xs, rfl, hl, hp, m⟩ := h
    match xs, hl, m with
    | [x0], _, m =>
      refine ⟨_, (pss_one (ps_fld (pv 0) (pv 1) rfl)), ?_⟩
      tm_at "s"
      refine ⟨p, _, dx, _, rfl, hp, T.cl 17 (by decide), T.fld 17 (by decide) "table" (by decide), (by show 0 < 1000; decide), ?_⟩
      exact m _ (fun c o h1 e => by rw [upd_ne h1]; exact e) upd_same
theorem ok_init_Beyond {f : Addr} {fd : FuncData} (F : Fun K "__init__" "Beyond.__init__" s_Beyond___init__ f fd) (T : Txt K mg cs CP CD fb) : FnOk P w K mg base (L2.CX P w) 1 f fd ["self", "rest", "late"] (spInit (cs.getD 18 0) ["rest", "late"]) := by
  refine funO F sc_Beyond___init__ (fun vs H Q E h => ?_) (fun cd A fr s H vs Q E hr h => ?_)
  · obtain ⟨p, dx, xs, rfl, hl, _⟩ := h; rw [List.length_cons, hl]; rfl
  · obtain ⟨p, dx, xs, rfl, hl, hp, m⟩ := h
    match xs, hl, m with
    | [x0, x1], _, m =>
      refine ⟨_, (pss_cons (ps_fld (pv 0) (pv 1) rfl)
      (pss_one (ps_fld (pv 0) (pv 2) rfl))), ?_⟩
      tm_at "s"
      refine ⟨p, _, dx, _, rfl, hp, T.cl 18 (by decide), T.fld 18 (by decide) "rest" (by decide), (by show 0 < 1000; decide), ?_⟩
      tm_at "s"
      refine ⟨p, _, dx, _, rfl, upd_same, T.cl 18 (by decide), T.fld 18 (by decide) "late" (by decide), (by show 1 < 1000; decide), ?_⟩
      exact m _ (fun c o h1 e => by rw [upd_ne h1, upd_ne h1]; exact e) upd_same
theorem ok_init_Latest {f : Addr} {fd : FuncData} (F : Fun K "__init__" "Latest.__init__" s_Latest___init__ f fd) (T : Txt K mg cs CP CD fb) : FnOk P w K mg base (L2.CX P w) 1 f fd ["self", "late", "at", "world"] (spInit (cs.getD 19 0) ["late", "at", "world"]) := by
  refine funO F sc_Latest___init__ (fun vs H Q E h => ?_) (fun cd A fr s H vs Q E hr h => ?_)
  · obtain ⟨p, dx, xs, rfl, hl, _⟩ := h; rw [List.length_cons, hl]; rfl
  · obtain ⟨p, dx, xs, rfl, hl, hp, m⟩ := h
    match xs, hl, m with
    | [x0, x1, x2], _, m =>
      refine ⟨_, (pss_cons (ps_fld (pv 0) (pv 1) rfl)
      (pss_cons (ps_fld (pv 0) (pv 2) rfl)
      (pss_one (ps_fld (pv 0) (pv 3) rfl)))), ?_⟩
      tm_at "s"
      refine ⟨p, _, dx, _, rfl, hp, T.cl 19 (by decide), T.fld 19 (by decide) "late" (by decide), (by show 0 < 1000; decide), ?_⟩
      tm_at "s"
      refine ⟨p, _, dx, _, rfl, upd_same, T.cl 19 (by decide), T.fld 19 (by decide) "at" (by decide), (by show 1 < 1000; decide), ?_⟩
      tm_at "s"
      refine ⟨p, _, dx, _, rfl, upd_same, T.cl 19 (by decide), T.fld 19 (by decide) "world" (by decide), (by show 2 < 1000; decide), ?_⟩
      exact m _ (fun c o h1 e => by rw [upd_ne h1, upd_ne h1, upd_ne h1]; exact e) upd_same
theorem ok_init_Taking {f : Addr} {fd : FuncData} (F : Fun K "__init__" "Taking.__init__" s_Taking___init__ f fd) (T : Txt K mg cs CP CD fb) : FnOk P w K mg base (L2.CX P w) 1 f fd ["self", "worker", "at", "begun", "ended"] (spInit (cs.getD 20 0) ["worker", "at", "begun", "ended"]) := by
  refine funO F sc_Taking___init__ (fun vs H Q E h => ?_) (fun cd A fr s H vs Q E hr h => ?_)
  · obtain ⟨p, dx, xs, rfl, hl, _⟩ := h; rw [List.length_cons, hl]; rfl
  · obtain ⟨p, dx, xs, rfl, hl, hp, m⟩ := h
    match xs, hl, m with
    | [x0, x1, x2, x3], _, m =>
      refine ⟨_, (pss_cons (ps_fld (pv 0) (pv 1) rfl)
      (pss_cons (ps_fld (pv 0) (pv 2) rfl)
      (pss_cons (ps_fld (pv 0) (pv 3) rfl)
      (pss_one (ps_fld (pv 0) (pv 4) rfl))))), ?_⟩
      tm_at "s"
      refine ⟨p, _, dx, _, rfl, hp, T.cl 20 (by decide), T.fld 20 (by decide) "worker" (by decide), (by show 0 < 1000; decide), ?_⟩
      tm_at "s"
      refine ⟨p, _, dx, _, rfl, upd_same, T.cl 20 (by decide), T.fld 20 (by decide) "at" (by decide), (by show 1 < 1000; decide), ?_⟩
      tm_at "s"
      refine ⟨p, _, dx, _, rfl, upd_same, T.cl 20 (by decide), T.fld 20 (by decide) "begun" (by decide), (by show 2 < 1000; decide), ?_⟩
      tm_at "s"
      refine ⟨p, _, dx, _, rfl, upd_same, T.cl 20 (by decide), T.fld 20 (by decide) "ended" (by decide), (by show 3 < 1000; decide), ?_⟩
      exact m _ (fun c o h1 e => by rw [upd_ne h1, upd_ne h1, upd_ne h1, upd_ne h1]; exact e) upd_same
theorem ok_init_Fits {f : Addr} {fd : FuncData} (F : Fun K "__init__" "Fits.__init__" s_Fits___init__ f fd) (T : Txt K mg cs CP CD fb) : FnOk P w K mg base (L2.CX P w) 1 f fd ["self", "world"] (spInit (cs.getD 21 0) ["world"]) := by
  refine funO F sc_Fits___init__ (fun vs H Q E h => ?_) (fun cd A fr s H vs Q E hr h => ?_)
  · obtain ⟨p, dx, xs, rfl, hl, _⟩ := h; rw [List.length_cons, hl]; rfl
  · obtain ⟨p, dx, xs, rfl, hl, hp, m⟩ := h
    match xs, hl, m with
    | [x0], _, m =>
      refine ⟨_, (pss_one (ps_fld (pv 0) (pv 1) rfl)), ?_⟩
      tm_at "s"
      refine ⟨p, _, dx, _, rfl, hp, T.cl 21 (by decide), T.fld 21 (by decide) "world" (by decide), (by show 0 < 1000; decide), ?_⟩
      exact m _ (fun c o h1 e => by rw [upd_ne h1]; exact e) upd_same
theorem ok_init_Misfit {f : Addr} {fd : FuncData} (F : Fun K "__init__" "Misfit.__init__" s_Misfit___init__ f fd) (T : Txt K mg cs CP CD fb) : FnOk P w K mg base (L2.CX P w) 1 f fd ["self", "at", "why"] (spInit (cs.getD 22 0) ["at", "why"]) := by
  refine funO F sc_Misfit___init__ (fun vs H Q E h => ?_) (fun cd A fr s H vs Q E hr h => ?_)
  · obtain ⟨p, dx, xs, rfl, hl, _⟩ := h; rw [List.length_cons, hl]; rfl
  · obtain ⟨p, dx, xs, rfl, hl, hp, m⟩ := h
    match xs, hl, m with
    | [x0, x1], _, m =>
      refine ⟨_, (pss_cons (ps_fld (pv 0) (pv 1) rfl)
      (pss_one (ps_fld (pv 0) (pv 2) rfl))), ?_⟩
      tm_at "s"
      refine ⟨p, _, dx, _, rfl, hp, T.cl 22 (by decide), T.fld 22 (by decide) "at" (by decide), (by show 0 < 1000; decide), ?_⟩
      tm_at "s"
      refine ⟨p, _, dx, _, rfl, upd_same, T.cl 22 (by decide), T.fld 22 (by decide) "why" (by decide), (by show 1 < 1000; decide), ?_⟩
      exact m _ (fun c o h1 e => by rw [upd_ne h1, upd_ne h1]; exact e) upd_same
theorem ok_init_Ring {f : Addr} {fd : FuncData} (F : Fun K "__init__" "Ring.__init__" s_Ring___init__ f fd) (T : Txt K mg cs CP CD fb) : FnOk P w K mg base (L2.CX P w) 1 f fd ["self", "workers"] (spInit (cs.getD 23 0) ["workers"]) := by
  refine funO F sc_Ring___init__ (fun vs H Q E h => ?_) (fun cd A fr s H vs Q E hr h => ?_)
  · obtain ⟨p, dx, xs, rfl, hl, _⟩ := h; rw [List.length_cons, hl]; rfl
  · obtain ⟨p, dx, xs, rfl, hl, hp, m⟩ := h
    match xs, hl, m with
    | [x0], _, m =>
      refine ⟨_, (pss_one (ps_fld (pv 0) (pv 1) rfl)), ?_⟩
      tm_at "s"
      refine ⟨p, _, dx, _, rfl, hp, T.cl 23 (by decide), T.fld 23 (by decide) "workers" (by decide), (by show 0 < 1000; decide), ?_⟩
      exact m _ (fun c o h1 e => by rw [upd_ne h1]; exact e) upd_same
theorem ok_init_Came {f : Addr} {fd : FuncData} (F : Fun K "__init__" "Came.__init__" s_Came___init__ f fd) (T : Txt K mg cs CP CD fb) : FnOk P w K mg base (L2.CX P w) 1 f fd ["self", "least", "most"] (spInit (cs.getD 24 0) ["least", "most"]) := by
  refine funO F sc_Came___init__ (fun vs H Q E h => ?_) (fun cd A fr s H vs Q E hr h => ?_)
  · obtain ⟨p, dx, xs, rfl, hl, _⟩ := h; rw [List.length_cons, hl]; rfl
  · obtain ⟨p, dx, xs, rfl, hl, hp, m⟩ := h
    match xs, hl, m with
    | [x0, x1], _, m =>
      refine ⟨_, (pss_cons (ps_fld (pv 0) (pv 1) rfl)
      (pss_one (ps_fld (pv 0) (pv 2) rfl))), ?_⟩
      tm_at "s"
      refine ⟨p, _, dx, _, rfl, hp, T.cl 24 (by decide), T.fld 24 (by decide) "least" (by decide), (by show 0 < 1000; decide), ?_⟩
      tm_at "s"
      refine ⟨p, _, dx, _, rfl, upd_same, T.cl 24 (by decide), T.fld 24 (by decide) "most" (by decide), (by show 1 < 1000; decide), ?_⟩
      exact m _ (fun c o h1 e => by rw [upd_ne h1, upd_ne h1]; exact e) upd_same
theorem ok_init_BestOrder {f : Addr} {fd : FuncData} (F : Fun K "__init__" "BestOrder.__init__" s_BestOrder___init__ f fd) (T : Txt K mg cs CP CD fb) : FnOk P w K mg base (L2.CX P w) 1 f fd ["self", "names", "late", "last"] (spInit (cs.getD 25 0) ["names", "late", "last"]) := by
  refine funO F sc_BestOrder___init__ (fun vs H Q E h => ?_) (fun cd A fr s H vs Q E hr h => ?_)
  · obtain ⟨p, dx, xs, rfl, hl, _⟩ := h; rw [List.length_cons, hl]; rfl
  · obtain ⟨p, dx, xs, rfl, hl, hp, m⟩ := h
    match xs, hl, m with
    | [x0, x1, x2], _, m =>
      refine ⟨_, (pss_cons (ps_fld (pv 0) (pv 1) rfl)
      (pss_cons (ps_fld (pv 0) (pv 2) rfl)
      (pss_one (ps_fld (pv 0) (pv 3) rfl)))), ?_⟩
      tm_at "s"
      refine ⟨p, _, dx, _, rfl, hp, T.cl 25 (by decide), T.fld 25 (by decide) "names" (by decide), (by show 0 < 1000; decide), ?_⟩
      tm_at "s"
      refine ⟨p, _, dx, _, rfl, upd_same, T.cl 25 (by decide), T.fld 25 (by decide) "late" (by decide), (by show 1 < 1000; decide), ?_⟩
      tm_at "s"
      refine ⟨p, _, dx, _, rfl, upd_same, T.cl 25 (by decide), T.fld 25 (by decide) "last" (by decide), (by show 2 < 1000; decide), ?_⟩
      exact m _ (fun c o h1 e => by rw [upd_ne h1, upd_ne h1, upd_ne h1]; exact e) upd_same
theorem ok_init_PoolTaking {f : Addr} {fd : FuncData} (F : Fun K "__init__" "PoolTaking.__init__" s_PoolTaking___init__ f fd) (T : Txt K mg cs CP CD fb) : FnOk P w K mg base (L2.CX P w) 1 f fd ["self", "loop", "worker", "many", "begun", "ended"] (spInit (cs.getD 26 0) ["loop", "worker", "many", "begun", "ended"]) := by
  refine funO F sc_PoolTaking___init__ (fun vs H Q E h => ?_) (fun cd A fr s H vs Q E hr h => ?_)
  · obtain ⟨p, dx, xs, rfl, hl, _⟩ := h; rw [List.length_cons, hl]; rfl
  · obtain ⟨p, dx, xs, rfl, hl, hp, m⟩ := h
    match xs, hl, m with
    | [x0, x1, x2, x3, x4], _, m =>
      refine ⟨_, (pss_cons (ps_fld (pv 0) (pv 1) rfl)
      (pss_cons (ps_fld (pv 0) (pv 2) rfl)
      (pss_cons (ps_fld (pv 0) (pv 3) rfl)
      (pss_cons (ps_fld (pv 0) (pv 4) rfl)
      (pss_one (ps_fld (pv 0) (pv 5) rfl)))))), ?_⟩
      tm_at "s"
      refine ⟨p, _, dx, _, rfl, hp, T.cl 26 (by decide), T.fld 26 (by decide) "loop" (by decide), (by show 0 < 1000; decide), ?_⟩
      tm_at "s"
      refine ⟨p, _, dx, _, rfl, upd_same, T.cl 26 (by decide), T.fld 26 (by decide) "worker" (by decide), (by show 1 < 1000; decide), ?_⟩
      tm_at "s"
      refine ⟨p, _, dx, _, rfl, upd_same, T.cl 26 (by decide), T.fld 26 (by decide) "many" (by decide), (by show 2 < 1000; decide), ?_⟩
      tm_at "s"
      refine ⟨p, _, dx, _, rfl, upd_same, T.cl 26 (by decide), T.fld 26 (by decide) "begun" (by decide), (by show 3 < 1000; decide), ?_⟩
      tm_at "s"
      refine ⟨p, _, dx, _, rfl, upd_same, T.cl 26 (by decide), T.fld 26 (by decide) "ended" (by decide), (by show 4 < 1000; decide), ?_⟩
      exact m _ (fun c o h1 e => by rw [upd_ne h1, upd_ne h1, upd_ne h1, upd_ne h1, upd_ne h1]; exact e) upd_same
end
end K03
end
section
local macro_rules | `(tactic| tm_at "s1") => `(tactic| first
  | with_reducible first
    | refine L3.s_seq ?_ | refine L3.s_asg ?_ | refine L3.s_op ?_ | refine L3.s_c ?_ | refine L3.s_cb ?_ | refine L3.s_cons ?_ | refine L3.s_nil ?_ | refine L3.s_test ?_ | refine L3.s_bl ?_
    | refine L3.s_I0 ?_ | refine L3.s_and ?_ | refine L3.s_or ?_ | refine L3.s_not ?_ | refine L3.s_if ?_ | refine L3.s_next ?_ | refine L3.s_ret ?_ | refine L3.s_retN ?_ | refine L3.s_asgS ?_ | refine L3.s_drop ?_
    | refine L3.s_un ?_ | refine L3.s_U ?_ | refine L3.s_int ?_ | refine L3.s_intB ?_ | refine L3.s_abs ?_ | refine L3.s_andV ?_ | refine L3.s_orV ?_ | refine L3.s_notV ?_ | refine L3.s_ifE ?_ | refine L3.s_call ?_ | refine L3.s_lst ?_ | refine L3.s_tup ?_ | refine L3.s_tB ?_
    | refine L3.s_addI ?_ | refine L3.s_inS ?_ | refine L3.s_ninS ?_ | refine L3.s_slice ?_ | refine L3.s_part ?_ | refine L3.s_partI ?_ | refine L3.s_nopart ?_ | refine L3.s_cI ?_ | refine L3.s_cB ?_ | refine L3.s_chain ?_ | refine L3.s_bm ?_ | refine L3.s_lcS ?_ | refine L3.s_lcR ?_ | refine L3.s_strE ?_
    | refine L2.iteT ?_ | refine L2.iteF ?_ | refine L3.iteNF ?_ | refine L3.iteNT ?_
    | refine L3.s_eqI ?_ | refine L3.s_neI ?_ | refine L3.s_eqS ?_ | refine L3.s_neS ?_
    | refine L3.s_pair ?_ | refine L3.s_pair2 ?_ | refine L3.s_fld ?_ | refine L3.s_make ?_ | refine L3.s_m1 ?_ | refine L3.s_isstr ?_
    | refine L3.s_xfV ?_ | refine L3.s_lstN ?_ | refine L3.s_callF ?_ | refine L3.s_lcL ?_ | refine L3.s_par3 ?_ | refine L3.s_trip ?_ | refine L3.s_asgT' ?_ | refine L3.s_gC ?_ | refine L3.s_gN ?_ | refine L3.s_fldG ?_ | refine L3.s_raise1 ?_
    | refine L3.s_isN ?_ | refine L3.s_isB ?_ | refine L3.s_nisN ?_ | refine L3.s_nisB ?_
  | ((with_reducible refine' L3.s_var ?e ?_); (case e => rfl))
  | ((with_reducible refine' L3.s_aug ?e ?_); (case e => rfl))
  | ((with_reducible refine' L3.s_pow ?c ?_); (case c => exact ⟨by decide, by decide, by decide⟩)))
local macro_rules | `(tactic| tm_at "s") => `(tactic| repeat tm_at "s1")
namespace K03
open PySem PySem.Spec PyProof.Rows L2 L3 LamX
abbrev s_Fewest___eq__ : Stmt := inClass (topS 4) 1
abbrev names_Fewest___eq__ : List Str := ["self", "other"]
theorem sc_Fewest___eq__ : FnScope ["self", "other"] ["self", "other"] (defScope s_Fewest___eq__) := ⟨rfl, rfl, rfl, by decide +kernel, rfl, by decide +kernel, by decide +kernel⟩
abbrev s_NoList___eq__ : Stmt := inClass (topS 5) 1
abbrev names_NoList___eq__ : List Str := ["self", "other"]
theorem sc_NoList___eq__ : FnScope ["self", "other"] ["self", "other"] (defScope s_NoList___eq__) := ⟨rfl, rfl, rfl, by decide +kernel, rfl, by decide +kernel, by decide +kernel⟩
abbrev s_Greatest___eq__ : Stmt := inClass (topS 6) 1
abbrev names_Greatest___eq__ : List Str := ["self", "other"]
theorem sc_Greatest___eq__ : FnScope ["self", "other"] ["self", "other"] (defScope s_Greatest___eq__) := ⟨rfl, rfl, rfl, by decide +kernel, rfl, by decide +kernel, by decide +kernel⟩
abbrev s_Least___eq__ : Stmt := inClass (topS 7) 1
abbrev names_Least___eq__ : List Str := ["self", "other"]
theorem sc_Least___eq__ : FnScope ["self", "other"] ["self", "other"] (defScope s_Least___eq__) := ⟨rfl, rfl, rfl, by decide +kernel, rfl, by decide +kernel, by decide +kernel⟩
abbrev s_BatchBound___eq__ : Stmt := inClass (topS 9) 1
abbrev names_BatchBound___eq__ : List Str := ["self", "other"]
theorem sc_BatchBound___eq__ : FnScope ["self", "other"] ["self", "other"] (defScope s_BatchBound___eq__) := ⟨rfl, rfl, rfl, by decide +kernel, rfl, by decide +kernel, by decide +kernel⟩
abbrev s_BatchEndless___eq__ : Stmt := inClass (topS 10) 1
abbrev names_BatchEndless___eq__ : List Str := ["self", "other"]
theorem sc_BatchEndless___eq__ : FnScope ["self", "other"] ["self", "other"] (defScope s_BatchEndless___eq__) := ⟨rfl, rfl, rfl, by decide +kernel, rfl, by decide +kernel, by decide +kernel⟩
abbrev s_NeverLess___eq__ : Stmt := inClass (topS 12) 1
abbrev names_NeverLess___eq__ : List Str := ["self", "other"]
theorem sc_NeverLess___eq__ : FnScope ["self", "other"] ["self", "other"] (defScope s_NeverLess___eq__) := ⟨rfl, rfl, rfl, by decide +kernel, rfl, by decide +kernel, by decide +kernel⟩
abbrev s_Less___eq__ : Stmt := inClass (topS 13) 1
abbrev names_Less___eq__ : List Str := ["self", "other"]
theorem sc_Less___eq__ : FnScope ["self", "other"] ["self", "other"] (defScope s_Less___eq__) := ⟨rfl, rfl, rfl, by decide +kernel, rfl, by decide +kernel, by decide +kernel⟩
abbrev s_Steady___eq__ : Stmt := inClass (topS 14) 1
abbrev names_Steady___eq__ : List Str := ["self", "other"]
theorem sc_Steady___eq__ : FnScope ["self", "other"] ["self", "other"] (defScope s_Steady___eq__) := ⟨rfl, rfl, rfl, by decide +kernel, rfl, by decide +kernel, by decide +kernel⟩
abbrev s_Jump___eq__ : Stmt := inClass (topS 15) 1
abbrev names_Jump___eq__ : List Str := ["self", "other"]
theorem sc_Jump___eq__ : FnScope ["self", "other"] ["self", "other"] (defScope s_Jump___eq__) := ⟨rfl, rfl, rfl, by decide +kernel, rfl, by decide +kernel, by decide +kernel⟩
abbrev s_Same___eq__ : Stmt := inClass (topS 16) 1
abbrev names_Same___eq__ : List Str := ["self", "other"]
theorem sc_Same___eq__ : FnScope ["self", "other"] ["self", "other"] (defScope s_Same___eq__) := ⟨rfl, rfl, rfl, by decide +kernel, rfl, by decide +kernel, by decide +kernel⟩
abbrev s_Other___eq__ : Stmt := inClass (topS 17) 1
abbrev names_Other___eq__ : List Str := ["self", "other"]
theorem sc_Other___eq__ : FnScope ["self", "other"] ["self", "other"] (defScope s_Other___eq__) := ⟨rfl, rfl, rfl, by decide +kernel, rfl, by decide +kernel, by decide +kernel⟩
abbrev s_Surely___eq__ : Stmt := inClass (topS 18) 1
abbrev names_Surely___eq__ : List Str := ["self", "other"]
theorem sc_Surely___eq__ : FnScope ["self", "other"] ["self", "other"] (defScope s_Surely___eq__) := ⟨rfl, rfl, rfl, by decide +kernel, rfl, by decide +kernel, by decide +kernel⟩
abbrev s_Counter___eq__ : Stmt := inClass (topS 19) 1
abbrev names_Counter___eq__ : List Str := ["self", "other"]
theorem sc_Counter___eq__ : FnScope ["self", "other"] ["self", "other"] (defScope s_Counter___eq__) := ⟨rfl, rfl, rfl, by decide +kernel, rfl, by decide +kernel, by decide +kernel⟩
abbrev s_Undecided___eq__ : Stmt := inClass (topS 20) 1
abbrev names_Undecided___eq__ : List Str := ["self", "other"]
theorem sc_Undecided___eq__ : FnScope ["self", "other"] ["self", "other"] (defScope s_Undecided___eq__) := ⟨rfl, rfl, rfl, by decide +kernel, rfl, by decide +kernel, by decide +kernel⟩
abbrev s_Bound___eq__ : Stmt := inClass (topS 22) 1
abbrev names_Bound___eq__ : List Str := ["self", "other"]
theorem sc_Bound___eq__ : FnScope ["self", "other"] ["self", "other"] (defScope s_Bound___eq__) := ⟨rfl, rfl, rfl, by decide +kernel, rfl, by decide +kernel, by decide +kernel⟩
abbrev s_Endless___eq__ : Stmt := inClass (topS 23) 1
abbrev names_Endless___eq__ : List Str := ["self", "other"]
theorem sc_Endless___eq__ : FnScope ["self", "other"] ["self", "other"] (defScope s_Endless___eq__) := ⟨rfl, rfl, rfl, by decide +kernel, rfl, by decide +kernel, by decide +kernel⟩
abbrev s_Within___eq__ : Stmt := inClass (topS 24) 1
abbrev names_Within___eq__ : List Str := ["self", "other"]
theorem sc_Within___eq__ : FnScope ["self", "other"] ["self", "other"] (defScope s_Within___eq__) := ⟨rfl, rfl, rfl, by decide +kernel, rfl, by decide +kernel, by decide +kernel⟩
abbrev s_Beyond___eq__ : Stmt := inClass (topS 25) 1
abbrev names_Beyond___eq__ : List Str := ["self", "other"]
theorem sc_Beyond___eq__ : FnScope ["self", "other"] ["self", "other"] (defScope s_Beyond___eq__) := ⟨rfl, rfl, rfl, by decide +kernel, rfl, by decide +kernel, by decide +kernel⟩
abbrev s_Latest___eq__ : Stmt := inClass (topS 27) 1
abbrev names_Latest___eq__ : List Str := ["self", "other"]
theorem sc_Latest___eq__ : FnScope ["self", "other"] ["self", "other"] (defScope s_Latest___eq__) := ⟨rfl, rfl, rfl, by decide +kernel, rfl, by decide +kernel, by decide +kernel⟩
abbrev s_Taking___eq__ : Stmt := inClass (topS 29) 1
abbrev names_Taking___eq__ : List Str := ["self", "other", "mine"]
theorem sc_Taking___eq__ : FnScope ["self", "other", "mine"] ["self", "other"] (defScope s_Taking___eq__) := ⟨rfl, rfl, rfl, by decide +kernel, rfl, by decide +kernel, by decide +kernel⟩
abbrev s_Fits___eq__ : Stmt := inClass (topS 31) 1
abbrev names_Fits___eq__ : List Str := ["self", "other"]
theorem sc_Fits___eq__ : FnScope ["self", "other"] ["self", "other"] (defScope s_Fits___eq__) := ⟨rfl, rfl, rfl, by decide +kernel, rfl, by decide +kernel, by decide +kernel⟩
abbrev s_Misfit___eq__ : Stmt := inClass (topS 32) 1
abbrev names_Misfit___eq__ : List Str := ["self", "other"]
theorem sc_Misfit___eq__ : FnScope ["self", "other"] ["self", "other"] (defScope s_Misfit___eq__) := ⟨rfl, rfl, rfl, by decide +kernel, rfl, by decide +kernel, by decide +kernel⟩
abbrev s_Ring___eq__ : Stmt := inClass (topS 33) 1
abbrev names_Ring___eq__ : List Str := ["self", "other"]
theorem sc_Ring___eq__ : FnScope ["self", "other"] ["self", "other"] (defScope s_Ring___eq__) := ⟨rfl, rfl, rfl, by decide +kernel, rfl, by decide +kernel, by decide +kernel⟩
abbrev s_Came___eq__ : Stmt := inClass (topS 34) 1
abbrev names_Came___eq__ : List Str := ["self", "other"]
theorem sc_Came___eq__ : FnScope ["self", "other"] ["self", "other"] (defScope s_Came___eq__) := ⟨rfl, rfl, rfl, by decide +kernel, rfl, by decide +kernel, by decide +kernel⟩
abbrev s_BestOrder___eq__ : Stmt := inClass (topS 36) 1
abbrev names_BestOrder___eq__ : List Str := ["self", "other"]
theorem sc_BestOrder___eq__ : FnScope ["self", "other"] ["self", "other"] (defScope s_BestOrder___eq__) := ⟨rfl, rfl, rfl, by decide +kernel, rfl, by decide +kernel, by decide +kernel⟩
abbrev s_PoolTaking___eq__ : Stmt := inClass (topS 38) 2
abbrev names_PoolTaking___eq__ : List Str := ["self", "other"]
theorem sc_PoolTaking___eq__ : FnScope ["self", "other"] ["self", "other"] (defScope s_PoolTaking___eq__) := ⟨rfl, rfl, rfl, by decide +kernel, rfl, by decide +kernel, by decide +kernel⟩
abbrev s_PoolTaking_own_row : Stmt := inClass (topS 38) 1
abbrev names_PoolTaking_own_row : List Str := ["self"]
theorem sc_PoolTaking_own_row : FnScope ["self"] ["self"] (defScope s_PoolTaking_own_row) := ⟨rfl, rfl, rfl, by decide +kernel, rfl, by decide +kernel, by decide +kernel⟩
section
variable {P : Program} {w : World} {K : PySem.W.Frag} {mg : Str → Option Value} {base : Heap} {cs : List Addr} {CP CD fb : Addr}
theorem all1 {b : Bool} : [b].all id = b := by simp
def spOwnRow (C : Addr) : Sp := fun vs H Q _ => ∃ p fs x1 x2 x3 x4 x5, vs = [.ref p] ∧ PaAt H p C fs ∧ fs.lookup ("loop" : Str) = some x1 ∧ fs.lookup ("worker" : Str) = some x2 ∧ fs.lookup ("many" : Str) = some x3 ∧ fs.lookup ("begun" : Str) = some x4 ∧ fs.lookup ("ended" : Str) = some x5 ∧ ∀ t H', Ex H H' → H' t = some (.tup [x1, x2, x3, x4, x5]) → Q (.ref t) H'
theorem ok_own_row {f : Addr} {fd : FuncData} (F : Fun K "own_row" "PoolTaking.own_row" s_PoolTaking_own_row f fd) (T : Txt K mg cs CP CD fb) : FnOk P w K mg base (L2.CX P w) 1 f fd ["self"] (spOwnRow (cs.getD 26 0)) := by
  refine funO F sc_PoolTaking_own_row (fun vs H Q E h => ?_) (fun cd A fr s H vs Q E hr h => ?_)
  · obtain ⟨p, fs, x1, x2, x3, x4, x5, rfl, _⟩ := h; rfl
  · obtain ⟨p, fs, x1, x2, x3, x4, x5, rfl, ⟨dx, g⟩, l1, l2, l3, l4, l5, k⟩ := h
    refine ⟨_, (pss_one (ps_ret (pe_tup (pa_cons (KX.fld (K := K) rfl (pv 0) rfl) (pa_cons (KX.fld (K := K) rfl (pv 0) rfl) (pa_cons (KX.fld (K := K) rfl (pv 0) rfl) (pa_cons (KX.fld (K := K) rfl (pv 0) rfl) (pa_cons (KX.fld (K := K) rfl (pv 0) rfl) pa_nil)))))))), ?_⟩
    tm_at "s"
    refine ⟨p, _, dx, _, _, rfl, g, T.cl 26 (by decide), T.fld 26 (by decide) "loop" (by decide), l1, ?_⟩
    tm_at "s"
    refine ⟨p, _, dx, _, _, rfl, g, T.cl 26 (by decide), T.fld 26 (by decide) "worker" (by decide), l2, ?_⟩
    tm_at "s"
    refine ⟨p, _, dx, _, _, rfl, g, T.cl 26 (by decide), T.fld 26 (by decide) "many" (by decide), l3, ?_⟩
    tm_at "s"
    refine ⟨p, _, dx, _, _, rfl, g, T.cl 26 (by decide), T.fld 26 (by decide) "begun" (by decide), l4, ?_⟩
    tm_at "s"
    refine ⟨p, _, dx, _, _, rfl, g, T.cl 26 (by decide), T.fld 26 (by decide) "ended" (by decide), l5, ?_⟩
    tm_at "s"
    refine s_new (Nat.le_of_lt (small1000 (by simp))) fun t H1 ht e1 h1 => ?_
    exact k t H1 e1 h1
theorem ok_eq_Fewest {f : Addr} {fd : FuncData} (F : Fun K "__eq__" "Fewest.__eq__" s_Fewest___eq__ f fd) (T : Txt K mg cs CP CD fb) : FnOk P w K mg base (L2.CX P w) 2 f fd ["self", "other"] (spEqC K (cs.getD 0 0) ["chunks"]) := by
  refine funO F sc_Fewest___eq__ (fun vs H Q E h => ?_) (fun cd A fr s H vs Q E hr h => ?_)
  · obtain ⟨p, y, fs, rfl, _⟩ := h; rfl
  · obtain ⟨p, y, fs, rfl, ⟨d1, g1⟩, hc⟩ := h
    refine ⟨_, (pss_one (ps_ret (pe_and (pe_callB (KX.callIsi (K := K)) (by rfl) T.b_isinstance (by decide +kernel) (pa_cons (pv 1) (pa_cons (C8.pe_gc (by rfl) T.g_Fewest) pa_nil))) (pe_one (pe_cmpR (KX.pq (K := K) rfl hr.units) (KX.fld (K := K) rfl (pv 0) rfl) (KX.fld (K := K) rfl (pv 1) rfl) (nomark _)))))), ?_⟩
    rcases hc with ⟨q, fs', xs, ys, bs, rfl, ⟨d2, g2⟩, nw1, nw2, m1, m2, ha, k⟩ | ⟨ty, ht, hk, k⟩
    · obtain ⟨x1, y1, b1, rfl, l1, r1, p1⟩ := inv1 m1 m2 ha
      tm_at "s"
      refine s_isiC (T.ty (j := 0) (by decide) g2) (T.kC (j := 0) (by decide)) ?_
      tm_at "s"
      refine ⟨p, _, d1, _, _, rfl, g1, T.cl 0 (by decide), T.fld 0 (by decide) "chunks" (by decide), l1, ?_⟩
      tm_at "s"
      refine ⟨q, _, d2, _, _, rfl, g2, T.cl 0 (by decide), T.fld 0 (by decide) "chunks" (by decide), r1, ?_⟩
      tm_at "s"
      have kk := k _ (Ex.refl _)
      rw [all1] at kk
      exact ⟨b1, p1, kk⟩
    · tm_at "s"
      refine s_isiC ht hk ?_
      tm_at "s"
      exact k _ (Ex.refl _)
theorem ok_eq_NoList {f : Addr} {fd : FuncData} (F : Fun K "__eq__" "NoList.__eq__" s_NoList___eq__ f fd) (T : Txt K mg cs CP CD fb) : FnOk P w K mg base (L2.CX P w) 2 f fd ["self", "other"] (spEqC K (cs.getD 1 0) ["rests"]) := by
  refine funO F sc_NoList___eq__ (fun vs H Q E h => ?_) (fun cd A fr s H vs Q E hr h => ?_)
  · obtain ⟨p, y, fs, rfl, _⟩ := h; rfl
  · obtain ⟨p, y, fs, rfl, ⟨d1, g1⟩, hc⟩ := h
    refine ⟨_, (pss_one (ps_ret (pe_and (pe_callB (KX.callIsi (K := K)) (by rfl) T.b_isinstance (by decide +kernel) (pa_cons (pv 1) (pa_cons (C8.pe_gc (by rfl) T.g_NoList) pa_nil))) (pe_one (pe_cmpR (KX.pq (K := K) rfl hr.units) (KX.fld (K := K) rfl (pv 0) rfl) (KX.fld (K := K) rfl (pv 1) rfl) (nomark _)))))), ?_⟩
    rcases hc with ⟨q, fs', xs, ys, bs, rfl, ⟨d2, g2⟩, nw1, nw2, m1, m2, ha, k⟩ | ⟨ty, ht, hk, k⟩
    · obtain ⟨x1, y1, b1, rfl, l1, r1, p1⟩ := inv1 m1 m2 ha
      tm_at "s"
      refine s_isiC (T.ty (j := 1) (by decide) g2) (T.kC (j := 1) (by decide)) ?_
      tm_at "s"
      refine ⟨p, _, d1, _, _, rfl, g1, T.cl 1 (by decide), T.fld 1 (by decide) "rests" (by decide), l1, ?_⟩
      tm_at "s"
      refine ⟨q, _, d2, _, _, rfl, g2, T.cl 1 (by decide), T.fld 1 (by decide) "rests" (by decide), r1, ?_⟩
      tm_at "s"
      have kk := k _ (Ex.refl _)
      rw [all1] at kk
      exact ⟨b1, p1, kk⟩
    · tm_at "s"
      refine s_isiC ht hk ?_
      tm_at "s"
      exact k _ (Ex.refl _)
theorem ok_eq_Greatest {f : Addr} {fd : FuncData} (F : Fun K "__eq__" "Greatest.__eq__" s_Greatest___eq__ f fd) (T : Txt K mg cs CP CD fb) : FnOk P w K mg base (L2.CX P w) 2 f fd ["self", "other"] (spEqC K (cs.getD 2 0) ["total", "chunks"]) := by
  refine funO F sc_Greatest___eq__ (fun vs H Q E h => ?_) (fun cd A fr s H vs Q E hr h => ?_)
  · obtain ⟨p, y, fs, rfl, _⟩ := h; rfl
  · obtain ⟨p, y, fs, rfl, ⟨d1, g1⟩, hc⟩ := h
    refine ⟨_, (pss_one (ps_ret (pe_and (pe_callB (KX.callIsi (K := K)) (by rfl) T.b_isinstance (by decide +kernel) (pa_cons (pv 1) (pa_cons (C8.pe_gc (by rfl) T.g_Greatest) pa_nil))) (pe_one (pe_cmpR (KX.tq (K := K) rfl (units66 hr)) (pe_tup (pa_cons (KX.fld (K := K) rfl (pv 0) rfl) (pa_cons (KX.fld (K := K) rfl (pv 0) rfl) pa_nil))) (pe_tup (pa_cons (KX.fld (K := K) rfl (pv 1) rfl) (pa_cons (KX.fld (K := K) rfl (pv 1) rfl) pa_nil))) (nomark _)))))), ?_⟩
    rcases hc with ⟨q, fs', xs, ys, bs, rfl, ⟨d2, g2⟩, nw1, nw2, m1, m2, ha, k⟩ | ⟨ty, ht, hk, k⟩
    · obtain ⟨x1, x2, y1, y2, b1, b2, rfl, l1, r1, p1, l2, r2, p2⟩ := inv2 m1 m2 ha
      tm_at "s"
      refine s_isiC (T.ty (j := 2) (by decide) g2) (T.kC (j := 2) (by decide)) ?_
      tm_at "s"
      refine ⟨p, _, d1, _, _, rfl, g1, T.cl 2 (by decide), T.fld 2 (by decide) "total" (by decide), l1, ?_⟩
      tm_at "s"
      refine ⟨p, _, d1, _, _, rfl, g1, T.cl 2 (by decide), T.fld 2 (by decide) "chunks" (by decide), l2, ?_⟩
      tm_at "s"
      refine s_new (Nat.le_of_lt (small1000 (by simp))) fun t1 H1 ht1 e1 h1 => ?_
      tm_at "s"
      have g1 := e1 _ _ g1
      have g2 := e1 _ _ g2
      refine ⟨q, _, d2, _, _, rfl, g2, T.cl 2 (by decide), T.fld 2 (by decide) "total" (by decide), r1, ?_⟩
      tm_at "s"
      refine ⟨q, _, d2, _, _, rfl, g2, T.cl 2 (by decide), T.fld 2 (by decide) "chunks" (by decide), r2, ?_⟩
      tm_at "s"
      refine s_new (Nat.le_of_lt (small1000 (by simp))) fun t2 H2 ht2 e2 h2 => ?_
      refine ⟨t1, t2, _, _, _, rfl, rfl, e2 _ _ h1, h2, (.cons (p1.ex (e1.trans e2)) (.cons (p2.ex (e1.trans e2)) .nil)), ?_⟩
      exact k _ (e1.trans e2)
    · tm_at "s"
      refine s_isiC ht hk ?_
      tm_at "s"
      exact k _ (Ex.refl _)
theorem ok_eq_Least {f : Addr} {fd : FuncData} (F : Fun K "__eq__" "Least.__eq__" s_Least___eq__ f fd) (T : Txt K mg cs CP CD fb) : FnOk P w K mg base (L2.CX P w) 2 f fd ["self", "other"] (spEqC K (cs.getD 3 0) ["limit", "chunks", "below"]) := by
  refine funO F sc_Least___eq__ (fun vs H Q E h => ?_) (fun cd A fr s H vs Q E hr h => ?_)
  · obtain ⟨p, y, fs, rfl, _⟩ := h; rfl
  · obtain ⟨p, y, fs, rfl, ⟨d1, g1⟩, hc⟩ := h
    refine ⟨_, (pss_cons (ps_if (PW.pt (pw_or (pt_not (pt_val (pe_callB (KX.callIsi (K := K)) (by rfl) T.b_isinstance (by decide +kernel) (pa_cons (pv 1) (pa_cons (C8.pe_gc (by rfl) T.g_Least) pa_nil))))) (pw_or1 (pt_cmpR (KX.nq (K := K) rfl hr.units) (KX.fld (K := K) rfl (pv 0) rfl) (KX.fld (K := K) rfl (pv 1) rfl) (nomark _))))) (pss_one (ps_ret pe_bl)) pss_nil)
      (pss_one (ps_ret (pe_cmpR (KX.tq (K := K) rfl (units66 hr)) (pe_tup (pa_cons (KX.fld (K := K) rfl (pv 0) rfl) (pa_cons (KX.fld (K := K) rfl (pv 0) rfl) pa_nil))) (pe_tup (pa_cons (KX.fld (K := K) rfl (pv 1) rfl) (pa_cons (KX.fld (K := K) rfl (pv 1) rfl) pa_nil))) (nomark _))))), ?_⟩
    rcases hc with ⟨q, fs', xs, ys, bs, rfl, ⟨d2, g2⟩, nw1, nw2, m1, m2, ha, k⟩ | ⟨ty, ht, hk, k⟩
    · obtain ⟨x1, x2, x3, y1, y2, y3, b1, b2, b3, rfl, l1, r1, p1, l2, r2, p2, l3, r3, p3⟩ := inv3 m1 m2 ha
      tm_at "s"
      refine s_isiC (T.ty (j := 3) (by decide) g2) (T.kC (j := 3) (by decide)) ?_
      tm_at "s"
      refine ⟨p, _, d1, _, _, rfl, g1, T.cl 3 (by decide), T.fld 3 (by decide) "limit" (by decide), l1, ?_⟩
      tm_at "s"
      refine ⟨q, _, d2, _, _, rfl, g2, T.cl 3 (by decide), T.fld 3 (by decide) "limit" (by decide), r1, ?_⟩
      tm_at "s"
      refine ⟨b1, p1, ?_⟩
      tm_at "s"
      refine iteB (fun z => ?_) (fun z => ?_)
      · tm_at "s"
        have kk := k _ (Ex.refl _)
        rw [show b1 = false by simpa using z] at kk
        simpa using kk
      have z1 : b1 = true := by simpa using z
      tm_at "s"
      refine ⟨p, _, d1, _, _, rfl, g1, T.cl 3 (by decide), T.fld 3 (by decide) "chunks" (by decide), l2, ?_⟩
      tm_at "s"
      refine ⟨p, _, d1, _, _, rfl, g1, T.cl 3 (by decide), T.fld 3 (by decide) "below" (by decide), l3, ?_⟩
      tm_at "s"
      refine s_new (Nat.le_of_lt (small1000 (by simp))) fun t1 H1 ht1 e1 h1 => ?_
      tm_at "s"
      have g1 := e1 _ _ g1
      have g2 := e1 _ _ g2
      refine ⟨q, _, d2, _, _, rfl, g2, T.cl 3 (by decide), T.fld 3 (by decide) "chunks" (by decide), r2, ?_⟩
      tm_at "s"
      refine ⟨q, _, d2, _, _, rfl, g2, T.cl 3 (by decide), T.fld 3 (by decide) "below" (by decide), r3, ?_⟩
      tm_at "s"
      refine s_new (Nat.le_of_lt (small1000 (by simp))) fun t2 H2 ht2 e2 h2 => ?_
      refine ⟨t1, t2, _, _, _, rfl, rfl, e2 _ _ h1, h2, (.cons (p2.ex (e1.trans e2)) (.cons (p3.ex (e1.trans e2)) .nil)), ?_⟩
      have kk := k _ (e1.trans e2)
      rw [z1] at kk
      exact kk
    · tm_at "s"
      refine s_isiC ht hk ?_
      tm_at "s"
      exact k _ (Ex.refl _)
theorem ok_eq_BatchBound {f : Addr} {fd : FuncData} (F : Fun K "__eq__" "BatchBound.__eq__" s_BatchBound___eq__ f fd) (T : Txt K mg cs CP CD fb) : FnOk P w K mg base (L2.CX P w) 2 f fd ["self", "other"] (spEqC K (cs.getD 4 0) ["late", "rest", "spot"]) := by
  refine funO F sc_BatchBound___eq__ (fun vs H Q E h => ?_) (fun cd A fr s H vs Q E hr h => ?_)
  · obtain ⟨p, y, fs, rfl, _⟩ := h; rfl
  · obtain ⟨p, y, fs, rfl, ⟨d1, g1⟩, hc⟩ := h
    refine ⟨_, (pss_cons (ps_if (pt_not (pt_val (pe_callB (KX.callIsi (K := K)) (by rfl) T.b_isinstance (by decide +kernel) (pa_cons (pv 1) (pa_cons (C8.pe_gc (by rfl) T.g_BatchBound) pa_nil))))) (pss_one (ps_ret pe_bl)) pss_nil)
      (pss_one (ps_ret (pe_cmpR (KX.tq (K := K) rfl (units66 hr)) (pe_tup (pa_cons (KX.fld (K := K) rfl (pv 0) rfl) (pa_cons (KX.fld (K := K) rfl (pv 0) rfl) (pa_cons (KX.fld (K := K) rfl (pv 0) rfl) pa_nil)))) (pe_tup (pa_cons (KX.fld (K := K) rfl (pv 1) rfl) (pa_cons (KX.fld (K := K) rfl (pv 1) rfl) (pa_cons (KX.fld (K := K) rfl (pv 1) rfl) pa_nil)))) (nomark _))))), ?_⟩
    rcases hc with ⟨q, fs', xs, ys, bs, rfl, ⟨d2, g2⟩, nw1, nw2, m1, m2, ha, k⟩ | ⟨ty, ht, hk, k⟩
    · obtain ⟨x1, x2, x3, y1, y2, y3, b1, b2, b3, rfl, l1, r1, p1, l2, r2, p2, l3, r3, p3⟩ := inv3 m1 m2 ha
      tm_at "s"
      refine s_isiC (T.ty (j := 4) (by decide) g2) (T.kC (j := 4) (by decide)) ?_
      tm_at "s"
      refine ⟨p, _, d1, _, _, rfl, g1, T.cl 4 (by decide), T.fld 4 (by decide) "late" (by decide), l1, ?_⟩
      tm_at "s"
      refine ⟨p, _, d1, _, _, rfl, g1, T.cl 4 (by decide), T.fld 4 (by decide) "rest" (by decide), l2, ?_⟩
      tm_at "s"
      refine ⟨p, _, d1, _, _, rfl, g1, T.cl 4 (by decide), T.fld 4 (by decide) "spot" (by decide), l3, ?_⟩
      tm_at "s"
      refine s_new (Nat.le_of_lt (small1000 (by simp))) fun t1 H1 ht1 e1 h1 => ?_
      tm_at "s"
      have g1 := e1 _ _ g1
      have g2 := e1 _ _ g2
      refine ⟨q, _, d2, _, _, rfl, g2, T.cl 4 (by decide), T.fld 4 (by decide) "late" (by decide), r1, ?_⟩
      tm_at "s"
      refine ⟨q, _, d2, _, _, rfl, g2, T.cl 4 (by decide), T.fld 4 (by decide) "rest" (by decide), r2, ?_⟩
      tm_at "s"
      refine ⟨q, _, d2, _, _, rfl, g2, T.cl 4 (by decide), T.fld 4 (by decide) "spot" (by decide), r3, ?_⟩
      tm_at "s"
      refine s_new (Nat.le_of_lt (small1000 (by simp))) fun t2 H2 ht2 e2 h2 => ?_
      refine ⟨t1, t2, _, _, _, rfl, rfl, e2 _ _ h1, h2, (.cons (p1.ex (e1.trans e2)) (.cons (p2.ex (e1.trans e2)) (.cons (p3.ex (e1.trans e2)) .nil))), ?_⟩
      exact k _ (e1.trans e2)
    · tm_at "s"
      refine s_isiC ht hk ?_
      tm_at "s"
      exact k _ (Ex.refl _)
theorem ok_eq_BatchEndless {f : Addr} {fd : FuncData} (F : Fun K "__eq__" "BatchEndless.__eq__" s_BatchEndless___eq__ f fd) (T : Txt K mg cs CP CD fb) : FnOk P w K mg base (L2.CX P w) 2 f fd ["self", "other"] (spEqC K (cs.getD 5 0) ["spot", "rise"]) := by
  refine funO F sc_BatchEndless___eq__ (fun vs H Q E h => ?_) (fun cd A fr s H vs Q E hr h => ?_)
  · obtain ⟨p, y, fs, rfl, _⟩ := h; rfl
  · obtain ⟨p, y, fs, rfl, ⟨d1, g1⟩, hc⟩ := h
    refine ⟨_, (pss_one (ps_ret (pe_and (pe_callB (KX.callIsi (K := K)) (by rfl) T.b_isinstance (by decide +kernel) (pa_cons (pv 1) (pa_cons (C8.pe_gc (by rfl) T.g_BatchEndless) pa_nil))) (pe_one (pe_cmpR (KX.tq (K := K) rfl (units66 hr)) (pe_tup (pa_cons (KX.fld (K := K) rfl (pv 0) rfl) (pa_cons (KX.fld (K := K) rfl (pv 0) rfl) pa_nil))) (pe_tup (pa_cons (KX.fld (K := K) rfl (pv 1) rfl) (pa_cons (KX.fld (K := K) rfl (pv 1) rfl) pa_nil))) (nomark _)))))), ?_⟩
    rcases hc with ⟨q, fs', xs, ys, bs, rfl, ⟨d2, g2⟩, nw1, nw2, m1, m2, ha, k⟩ | ⟨ty, ht, hk, k⟩
    · obtain ⟨x1, x2, y1, y2, b1, b2, rfl, l1, r1, p1, l2, r2, p2⟩ := inv2 m1 m2 ha
      tm_at "s"
      refine s_isiC (T.ty (j := 5) (by decide) g2) (T.kC (j := 5) (by decide)) ?_
      tm_at "s"
      refine ⟨p, _, d1, _, _, rfl, g1, T.cl 5 (by decide), T.fld 5 (by decide) "spot" (by decide), l1, ?_⟩
      tm_at "s"
      refine ⟨p, _, d1, _, _, rfl, g1, T.cl 5 (by decide), T.fld 5 (by decide) "rise" (by decide), l2, ?_⟩
      tm_at "s"
      refine s_new (Nat.le_of_lt (small1000 (by simp))) fun t1 H1 ht1 e1 h1 => ?_
      tm_at "s"
      have g1 := e1 _ _ g1
      have g2 := e1 _ _ g2
      refine ⟨q, _, d2, _, _, rfl, g2, T.cl 5 (by decide), T.fld 5 (by decide) "spot" (by decide), r1, ?_⟩
      tm_at "s"
      refine ⟨q, _, d2, _, _, rfl, g2, T.cl 5 (by decide), T.fld 5 (by decide) "rise" (by decide), r2, ?_⟩
      tm_at "s"
      refine s_new (Nat.le_of_lt (small1000 (by simp))) fun t2 H2 ht2 e2 h2 => ?_
      refine ⟨t1, t2, _, _, _, rfl, rfl, e2 _ _ h1, h2, (.cons (p1.ex (e1.trans e2)) (.cons (p2.ex (e1.trans e2)) .nil)), ?_⟩
      exact k _ (e1.trans e2)
    · tm_at "s"
      refine s_isiC ht hk ?_
      tm_at "s"
      exact k _ (Ex.refl _)
theorem ok_eq_NeverLess {f : Addr} {fd : FuncData} (F : Fun K "__eq__" "NeverLess.__eq__" s_NeverLess___eq__ f fd) (T : Txt K mg cs CP CD fb) : FnOk P w K mg base (L2.CX P w) 2 f fd ["self", "other"] (spEqC K (cs.getD 6 0) ["begins"]) := by
  refine funO F sc_NeverLess___eq__ (fun vs H Q E h => ?_) (fun cd A fr s H vs Q E hr h => ?_)
  · obtain ⟨p, y, fs, rfl, _⟩ := h; rfl
  · obtain ⟨p, y, fs, rfl, ⟨d1, g1⟩, hc⟩ := h
    refine ⟨_, (pss_one (ps_ret (pe_and (pe_callB (KX.callIsi (K := K)) (by rfl) T.b_isinstance (by decide +kernel) (pa_cons (pv 1) (pa_cons (C8.pe_gc (by rfl) T.g_NeverLess) pa_nil))) (pe_one (pe_cmpR (KX.pq (K := K) rfl hr.units) (KX.fld (K := K) rfl (pv 0) rfl) (KX.fld (K := K) rfl (pv 1) rfl) (nomark _)))))), ?_⟩
    rcases hc with ⟨q, fs', xs, ys, bs, rfl, ⟨d2, g2⟩, nw1, nw2, m1, m2, ha, k⟩ | ⟨ty, ht, hk, k⟩
    · obtain ⟨x1, y1, b1, rfl, l1, r1, p1⟩ := inv1 m1 m2 ha
      tm_at "s"
      refine s_isiC (T.ty (j := 6) (by decide) g2) (T.kC (j := 6) (by decide)) ?_
      tm_at "s"
      refine ⟨p, _, d1, _, _, rfl, g1, T.cl 6 (by decide), T.fld 6 (by decide) "begins" (by decide), l1, ?_⟩
      tm_at "s"
      refine ⟨q, _, d2, _, _, rfl, g2, T.cl 6 (by decide), T.fld 6 (by decide) "begins" (by decide), r1, ?_⟩
      tm_at "s"
      have kk := k _ (Ex.refl _)
      rw [all1] at kk
      exact ⟨b1, p1, kk⟩
    · tm_at "s"
      refine s_isiC ht hk ?_
      tm_at "s"
      exact k _ (Ex.refl _)
theorem ok_eq_Less {f : Addr} {fd : FuncData} (F : Fun K "__eq__" "Less.__eq__" s_Less___eq__ f fd) (T : Txt K mg cs CP CD fb) : FnOk P w K mg base (L2.CX P w) 2 f fd ["self", "other"] (spEqC K (cs.getD 7 0) ["rest"]) := by
  refine funO F sc_Less___eq__ (fun vs H Q E h => ?_) (fun cd A fr s H vs Q E hr h => ?_)
  · obtain ⟨p, y, fs, rfl, _⟩ := h; rfl
  · obtain ⟨p, y, fs, rfl, ⟨d1, g1⟩, hc⟩ := h
    refine ⟨_, (pss_one (ps_ret (pe_and (pe_callB (KX.callIsi (K := K)) (by rfl) T.b_isinstance (by decide +kernel) (pa_cons (pv 1) (pa_cons (C8.pe_gc (by rfl) T.g_Less) pa_nil))) (pe_one (pe_cmpR (KX.pq (K := K) rfl hr.units) (KX.fld (K := K) rfl (pv 0) rfl) (KX.fld (K := K) rfl (pv 1) rfl) (nomark _)))))), ?_⟩
    rcases hc with ⟨q, fs', xs, ys, bs, rfl, ⟨d2, g2⟩, nw1, nw2, m1, m2, ha, k⟩ | ⟨ty, ht, hk, k⟩
    · obtain ⟨x1, y1, b1, rfl, l1, r1, p1⟩ := inv1 m1 m2 ha
      tm_at "s"
      refine s_isiC (T.ty (j := 7) (by decide) g2) (T.kC (j := 7) (by decide)) ?_
      tm_at "s"
      refine ⟨p, _, d1, _, _, rfl, g1, T.cl 7 (by decide), T.fld 7 (by decide) "rest" (by decide), l1, ?_⟩
      tm_at "s"
      refine ⟨q, _, d2, _, _, rfl, g2, T.cl 7 (by decide), T.fld 7 (by decide) "rest" (by decide), r1, ?_⟩
      tm_at "s"
      have kk := k _ (Ex.refl _)
      rw [all1] at kk
      exact ⟨b1, p1, kk⟩
    · tm_at "s"
      refine s_isiC ht hk ?_
      tm_at "s"
      exact k _ (Ex.refl _)
theorem ok_eq_Steady {f : Addr} {fd : FuncData} (F : Fun K "__eq__" "Steady.__eq__" s_Steady___eq__ f fd) (T : Txt K mg cs CP CD fb) : FnOk P w K mg base (L2.CX P w) 2 f fd ["self", "other"] (spEqC K (cs.getD 8 0) ["begins"]) := by
  refine funO F sc_Steady___eq__ (fun vs H Q E h => ?_) (fun cd A fr s H vs Q E hr h => ?_)
  · obtain ⟨p, y, fs, rfl, _⟩ := h; rfl
  · obtain ⟨p, y, fs, rfl, ⟨d1, g1⟩, hc⟩ := h
    refine ⟨_, (pss_one (ps_ret (pe_and (pe_callB (KX.callIsi (K := K)) (by rfl) T.b_isinstance (by decide +kernel) (pa_cons (pv 1) (pa_cons (C8.pe_gc (by rfl) T.g_Steady) pa_nil))) (pe_one (pe_cmpR (KX.pq (K := K) rfl hr.units) (KX.fld (K := K) rfl (pv 0) rfl) (KX.fld (K := K) rfl (pv 1) rfl) (nomark _)))))), ?_⟩
    rcases hc with ⟨q, fs', xs, ys, bs, rfl, ⟨d2, g2⟩, nw1, nw2, m1, m2, ha, k⟩ | ⟨ty, ht, hk, k⟩
    · obtain ⟨x1, y1, b1, rfl, l1, r1, p1⟩ := inv1 m1 m2 ha
      tm_at "s"
      refine s_isiC (T.ty (j := 8) (by decide) g2) (T.kC (j := 8) (by decide)) ?_
      tm_at "s"
      refine ⟨p, _, d1, _, _, rfl, g1, T.cl 8 (by decide), T.fld 8 (by decide) "begins" (by decide), l1, ?_⟩
      tm_at "s"
      refine ⟨q, _, d2, _, _, rfl, g2, T.cl 8 (by decide), T.fld 8 (by decide) "begins" (by decide), r1, ?_⟩
      tm_at "s"
      have kk := k _ (Ex.refl _)
      rw [all1] at kk
      exact ⟨b1, p1, kk⟩
    · tm_at "s"
      refine s_isiC ht hk ?_
      tm_at "s"
      exact k _ (Ex.refl _)
theorem ok_eq_Jump {f : Addr} {fd : FuncData} (F : Fun K "__eq__" "Jump.__eq__" s_Jump___eq__ f fd) (T : Txt K mg cs CP CD fb) : FnOk P w K mg base (L2.CX P w) 2 f fd ["self", "other"] (spEqC K (cs.getD 9 0) ["rest"]) := by
  refine funO F sc_Jump___eq__ (fun vs H Q E h => ?_) (fun cd A fr s H vs Q E hr h => ?_)
  · obtain ⟨p, y, fs, rfl, _⟩ := h; rfl
  · obtain ⟨p, y, fs, rfl, ⟨d1, g1⟩, hc⟩ := h
    refine ⟨_, (pss_one (ps_ret (pe_and (pe_callB (KX.callIsi (K := K)) (by rfl) T.b_isinstance (by decide +kernel) (pa_cons (pv 1) (pa_cons (C8.pe_gc (by rfl) T.g_Jump) pa_nil))) (pe_one (pe_cmpR (KX.pq (K := K) rfl hr.units) (KX.fld (K := K) rfl (pv 0) rfl) (KX.fld (K := K) rfl (pv 1) rfl) (nomark _)))))), ?_⟩
    rcases hc with ⟨q, fs', xs, ys, bs, rfl, ⟨d2, g2⟩, nw1, nw2, m1, m2, ha, k⟩ | ⟨ty, ht, hk, k⟩
    · obtain ⟨x1, y1, b1, rfl, l1, r1, p1⟩ := inv1 m1 m2 ha
      tm_at "s"
      refine s_isiC (T.ty (j := 9) (by decide) g2) (T.kC (j := 9) (by decide)) ?_
      tm_at "s"
      refine ⟨p, _, d1, _, _, rfl, g1, T.cl 9 (by decide), T.fld 9 (by decide) "rest" (by decide), l1, ?_⟩
      tm_at "s"
      refine ⟨q, _, d2, _, _, rfl, g2, T.cl 9 (by decide), T.fld 9 (by decide) "rest" (by decide), r1, ?_⟩
      tm_at "s"
      have kk := k _ (Ex.refl _)
      rw [all1] at kk
      exact ⟨b1, p1, kk⟩
    · tm_at "s"
      refine s_isiC ht hk ?_
      tm_at "s"
      exact k _ (Ex.refl _)
theorem ok_eq_Same {f : Addr} {fd : FuncData} (F : Fun K "__eq__" "Same.__eq__" s_Same___eq__ f fd) (T : Txt K mg cs CP CD fb) : FnOk P w K mg base (L2.CX P w) 2 f fd ["self", "other"] (spEqC K (cs.getD 10 0) ["first", "last"]) := by
  refine funO F sc_Same___eq__ (fun vs H Q E h => ?_) (fun cd A fr s H vs Q E hr h => ?_)
  · obtain ⟨p, y, fs, rfl, _⟩ := h; rfl
  · obtain ⟨p, y, fs, rfl, ⟨d1, g1⟩, hc⟩ := h
    refine ⟨_, (pss_one (ps_ret (pe_and (pe_callB (KX.callIsi (K := K)) (by rfl) T.b_isinstance (by decide +kernel) (pa_cons (pv 1) (pa_cons (C8.pe_gc (by rfl) T.g_Same) pa_nil))) (pe_one (pe_cmpR (KX.tq (K := K) rfl (units66 hr)) (pe_tup (pa_cons (KX.fld (K := K) rfl (pv 0) rfl) (pa_cons (KX.fld (K := K) rfl (pv 0) rfl) pa_nil))) (pe_tup (pa_cons (KX.fld (K := K) rfl (pv 1) rfl) (pa_cons (KX.fld (K := K) rfl (pv 1) rfl) pa_nil))) (nomark _)))))), ?_⟩
    rcases hc with ⟨q, fs', xs, ys, bs, rfl, ⟨d2, g2⟩, nw1, nw2, m1, m2, ha, k⟩ | ⟨ty, ht, hk, k⟩
    · obtain ⟨x1, x2, y1, y2, b1, b2, rfl, l1, r1, p1, l2, r2, p2⟩ := inv2 m1 m2 ha
      tm_at "s"
      refine s_isiC (T.ty (j := 10) (by decide) g2) (T.kC (j := 10) (by decide)) ?_
      tm_at "s"
      refine ⟨p, _, d1, _, _, rfl, g1, T.cl 10 (by decide), T.fld 10 (by decide) "first" (by decide), l1, ?_⟩
      tm_at "s"
      refine ⟨p, _, d1, _, _, rfl, g1, T.cl 10 (by decide), T.fld 10 (by decide) "last" (by decide), l2, ?_⟩
      tm_at "s"
      refine s_new (Nat.le_of_lt (small1000 (by simp))) fun t1 H1 ht1 e1 h1 => ?_
      tm_at "s"
      have g1 := e1 _ _ g1
      have g2 := e1 _ _ g2
      refine ⟨q, _, d2, _, _, rfl, g2, T.cl 10 (by decide), T.fld 10 (by decide) "first" (by decide), r1, ?_⟩
      tm_at "s"
      refine ⟨q, _, d2, _, _, rfl, g2, T.cl 10 (by decide), T.fld 10 (by decide) "last" (by decide), r2, ?_⟩
      tm_at "s"
      refine s_new (Nat.le_of_lt (small1000 (by simp))) fun t2 H2 ht2 e2 h2 => ?_
      refine ⟨t1, t2, _, _, _, rfl, rfl, e2 _ _ h1, h2, (.cons (p1.ex (e1.trans e2)) (.cons (p2.ex (e1.trans e2)) .nil)), ?_⟩
      exact k _ (e1.trans e2)
    · tm_at "s"
      refine s_isiC ht hk ?_
      tm_at "s"
      exact k _ (Ex.refl _)
theorem ok_eq_Other {f : Addr} {fd : FuncData} (F : Fun K "__eq__" "Other.__eq__" s_Other___eq__ f fd) (T : Txt K mg cs CP CD fb) : FnOk P w K mg base (L2.CX P w) 2 f fd ["self", "other"] (spEqC K (cs.getD 11 0) ["rest"]) := by
  refine funO F sc_Other___eq__ (fun vs H Q E h => ?_) (fun cd A fr s H vs Q E hr h => ?_)
  · obtain ⟨p, y, fs, rfl, _⟩ := h; rfl
  · obtain ⟨p, y, fs, rfl, ⟨d1, g1⟩, hc⟩ := h
    refine ⟨_, (pss_one (ps_ret (pe_and (pe_callB (KX.callIsi (K := K)) (by rfl) T.b_isinstance (by decide +kernel) (pa_cons (pv 1) (pa_cons (C8.pe_gc (by rfl) T.g_Other) pa_nil))) (pe_one (pe_cmpR (KX.pq (K := K) rfl hr.units) (KX.fld (K := K) rfl (pv 0) rfl) (KX.fld (K := K) rfl (pv 1) rfl) (nomark _)))))), ?_⟩
    rcases hc with ⟨q, fs', xs, ys, bs, rfl, ⟨d2, g2⟩, nw1, nw2, m1, m2, ha, k⟩ | ⟨ty, ht, hk, k⟩
    · obtain ⟨x1, y1, b1, rfl, l1, r1, p1⟩ := inv1 m1 m2 ha
      tm_at "s"
      refine s_isiC (T.ty (j := 11) (by decide) g2) (T.kC (j := 11) (by decide)) ?_
      tm_at "s"
      refine ⟨p, _, d1, _, _, rfl, g1, T.cl 11 (by decide), T.fld 11 (by decide) "rest" (by decide), l1, ?_⟩
      tm_at "s"
      refine ⟨q, _, d2, _, _, rfl, g2, T.cl 11 (by decide), T.fld 11 (by decide) "rest" (by decide), r1, ?_⟩
      tm_at "s"
      have kk := k _ (Ex.refl _)
      rw [all1] at kk
      exact ⟨b1, p1, kk⟩
    · tm_at "s"
      refine s_isiC ht hk ?_
      tm_at "s"
      exact k _ (Ex.refl _)
theorem ok_eq_Surely {f : Addr} {fd : FuncData} (F : Fun K "__eq__" "Surely.__eq__" s_Surely___eq__ f fd) (T : Txt K mg cs CP CD fb) : FnOk P w K mg base (L2.CX P w) 2 f fd ["self", "other"] (spEqC K (cs.getD 12 0) ["never", "steady"]) := by
  refine funO F sc_Surely___eq__ (fun vs H Q E h => ?_) (fun cd A fr s H vs Q E hr h => ?_)
  · obtain ⟨p, y, fs, rfl, _⟩ := h; rfl
  · obtain ⟨p, y, fs, rfl, ⟨d1, g1⟩, hc⟩ := h
    refine ⟨_, (pss_one (ps_ret (pe_and (pe_callB (KX.callIsi (K := K)) (by rfl) T.b_isinstance (by decide +kernel) (pa_cons (pv 1) (pa_cons (C8.pe_gc (by rfl) T.g_Surely) pa_nil))) (pe_one (pe_cmpR (KX.tq (K := K) rfl (units66 hr)) (pe_tup (pa_cons (KX.fld (K := K) rfl (pv 0) rfl) (pa_cons (KX.fld (K := K) rfl (pv 0) rfl) pa_nil))) (pe_tup (pa_cons (KX.fld (K := K) rfl (pv 1) rfl) (pa_cons (KX.fld (K := K) rfl (pv 1) rfl) pa_nil))) (nomark _)))))), ?_⟩
    rcases hc with ⟨q, fs', xs, ys, bs, rfl, ⟨d2, g2⟩, nw1, nw2, m1, m2, ha, k⟩ | ⟨ty, ht, hk, k⟩
    · obtain ⟨x1, x2, y1, y2, b1, b2, rfl, l1, r1, p1, l2, r2, p2⟩ := inv2 m1 m2 ha
      tm_at "s"
      refine s_isiC (T.ty (j := 12) (by decide) g2) (T.kC (j := 12) (by decide)) ?_
      tm_at "s"
      refine ⟨p, _, d1, _, _, rfl, g1, T.cl 12 (by decide), T.fld 12 (by decide) "never" (by decide), l1, ?_⟩
      tm_at "s"
      refine ⟨p, _, d1, _, _, rfl, g1, T.cl 12 (by decide), T.fld 12 (by decide) "steady" (by decide), l2, ?_⟩
      tm_at "s"
      refine s_new (Nat.le_of_lt (small1000 (by simp))) fun t1 H1 ht1 e1 h1 => ?_
      tm_at "s"
      have g1 := e1 _ _ g1
      have g2 := e1 _ _ g2
      refine ⟨q, _, d2, _, _, rfl, g2, T.cl 12 (by decide), T.fld 12 (by decide) "never" (by decide), r1, ?_⟩
      tm_at "s"
      refine ⟨q, _, d2, _, _, rfl, g2, T.cl 12 (by decide), T.fld 12 (by decide) "steady" (by decide), r2, ?_⟩
      tm_at "s"
      refine s_new (Nat.le_of_lt (small1000 (by simp))) fun t2 H2 ht2 e2 h2 => ?_
      refine ⟨t1, t2, _, _, _, rfl, rfl, e2 _ _ h1, h2, (.cons (p1.ex (e1.trans e2)) (.cons (p2.ex (e1.trans e2)) .nil)), ?_⟩
      exact k _ (e1.trans e2)
    · tm_at "s"
      refine s_isiC ht hk ?_
      tm_at "s"
      exact k _ (Ex.refl _)
theorem ok_eq_Counter {f : Addr} {fd : FuncData} (F : Fun K "__eq__" "Counter.__eq__" s_Counter___eq__ f fd) (T : Txt K mg cs CP CD fb) : FnOk P w K mg base (L2.CX P w) 2 f fd ["self", "other"] (spEqC K (cs.getD 13 0) ["total", "counts"]) := by
  refine funO F sc_Counter___eq__ (fun vs H Q E h => ?_) (fun cd A fr s H vs Q E hr h => ?_)
  · obtain ⟨p, y, fs, rfl, _⟩ := h; rfl
  · obtain ⟨p, y, fs, rfl, ⟨d1, g1⟩, hc⟩ := h
    refine ⟨_, (pss_one (ps_ret (pe_and (pe_callB (KX.callIsi (K := K)) (by rfl) T.b_isinstance (by decide +kernel) (pa_cons (pv 1) (pa_cons (C8.pe_gc (by rfl) T.g_Counter) pa_nil))) (pe_one (pe_cmpR (KX.tq (K := K) rfl (units66 hr)) (pe_tup (pa_cons (KX.fld (K := K) rfl (pv 0) rfl) (pa_cons (KX.fld (K := K) rfl (pv 0) rfl) pa_nil))) (pe_tup (pa_cons (KX.fld (K := K) rfl (pv 1) rfl) (pa_cons (KX.fld (K := K) rfl (pv 1) rfl) pa_nil))) (nomark _)))))), ?_⟩
    rcases hc with ⟨q, fs', xs, ys, bs, rfl, ⟨d2, g2⟩, nw1, nw2, m1, m2, ha, k⟩ | ⟨ty, ht, hk, k⟩
    · obtain ⟨x1, x2, y1, y2, b1, b2, rfl, l1, r1, p1, l2, r2, p2⟩ := inv2 m1 m2 ha
      tm_at "s"
      refine s_isiC (T.ty (j := 13) (by decide) g2) (T.kC (j := 13) (by decide)) ?_
      tm_at "s"
      refine ⟨p, _, d1, _, _, rfl, g1, T.cl 13 (by decide), T.fld 13 (by decide) "total" (by decide), l1, ?_⟩
      tm_at "s"
      refine ⟨p, _, d1, _, _, rfl, g1, T.cl 13 (by decide), T.fld 13 (by decide) "counts" (by decide), l2, ?_⟩
      tm_at "s"
      refine s_new (Nat.le_of_lt (small1000 (by simp))) fun t1 H1 ht1 e1 h1 => ?_
      tm_at "s"
      have g1 := e1 _ _ g1
      have g2 := e1 _ _ g2
      refine ⟨q, _, d2, _, _, rfl, g2, T.cl 13 (by decide), T.fld 13 (by decide) "total" (by decide), r1, ?_⟩
      tm_at "s"
      refine ⟨q, _, d2, _, _, rfl, g2, T.cl 13 (by decide), T.fld 13 (by decide) "counts" (by decide), r2, ?_⟩
      tm_at "s"
      refine s_new (Nat.le_of_lt (small1000 (by simp))) fun t2 H2 ht2 e2 h2 => ?_
      refine ⟨t1, t2, _, _, _, rfl, rfl, e2 _ _ h1, h2, (.cons (p1.ex (e1.trans e2)) (.cons (p2.ex (e1.trans e2)) .nil)), ?_⟩
      exact k _ (e1.trans e2)
    · tm_at "s"
      refine s_isiC ht hk ?_
      tm_at "s"
      exact k _ (Ex.refl _)
theorem ok_eq_Undecided {f : Addr} {fd : FuncData} (F : Fun K "__eq__" "Undecided.__eq__" s_Undecided___eq__ f fd) (T : Txt K mg cs CP CD fb) : FnOk P w K mg base (L2.CX P w) 2 f fd ["self", "other"] (spEqC K (cs.getD 14 0) ["upto"]) := by
  refine funO F sc_Undecided___eq__ (fun vs H Q E h => ?_) (fun cd A fr s H vs Q E hr h => ?_)
  · obtain ⟨p, y, fs, rfl, _⟩ := h; rfl
  · obtain ⟨p, y, fs, rfl, ⟨d1, g1⟩, hc⟩ := h
    refine ⟨_, (pss_one (ps_ret (pe_and (pe_callB (KX.callIsi (K := K)) (by rfl) T.b_isinstance (by decide +kernel) (pa_cons (pv 1) (pa_cons (C8.pe_gc (by rfl) T.g_Undecided) pa_nil))) (pe_one (pe_cmpR (KX.pq (K := K) rfl hr.units) (KX.fld (K := K) rfl (pv 0) rfl) (KX.fld (K := K) rfl (pv 1) rfl) (nomark _)))))), ?_⟩
    rcases hc with ⟨q, fs', xs, ys, bs, rfl, ⟨d2, g2⟩, nw1, nw2, m1, m2, ha, k⟩ | ⟨ty, ht, hk, k⟩
    · obtain ⟨x1, y1, b1, rfl, l1, r1, p1⟩ := inv1 m1 m2 ha
      tm_at "s"
      refine s_isiC (T.ty (j := 14) (by decide) g2) (T.kC (j := 14) (by decide)) ?_
      tm_at "s"
      refine ⟨p, _, d1, _, _, rfl, g1, T.cl 14 (by decide), T.fld 14 (by decide) "upto" (by decide), l1, ?_⟩
      tm_at "s"
      refine ⟨q, _, d2, _, _, rfl, g2, T.cl 14 (by decide), T.fld 14 (by decide) "upto" (by decide), r1, ?_⟩
      tm_at "s"
      have kk := k _ (Ex.refl _)
      rw [all1] at kk
      exact ⟨b1, p1, kk⟩
    · tm_at "s"
      refine s_isiC ht hk ?_
      tm_at "s"
      exact k _ (Ex.refl _)
theorem ok_eq_Bound {f : Addr} {fd : FuncData} (F : Fun K "__eq__" "Bound.__eq__" s_Bound___eq__ f fd) (T : Txt K mg cs CP CD fb) : FnOk P w K mg base (L2.CX P w) 2 f fd ["self", "other"] (spEqC K (cs.getD 15 0) ["late", "rest"]) := by
  refine funO F sc_Bound___eq__ (fun vs H Q E h => ?_) (fun cd A fr s H vs Q E hr h => ?_)
  · obtain ⟨p, y, fs, rfl, _⟩ := h; rfl
  · obtain ⟨p, y, fs, rfl, ⟨d1, g1⟩, hc⟩ := h
    refine ⟨_, (pss_one (ps_ret (pe_and (pe_callB (KX.callIsi (K := K)) (by rfl) T.b_isinstance (by decide +kernel) (pa_cons (pv 1) (pa_cons (C8.pe_gc (by rfl) T.g_Bound) pa_nil))) (pe_and (pe_cmpR (KX.pq (K := K) rfl hr.units) (KX.fld (K := K) rfl (pv 0) rfl) (KX.fld (K := K) rfl (pv 1) rfl) (nomark _)) (pe_one (pe_cmpR (KX.pq (K := K) rfl hr.units) (KX.fld (K := K) rfl (pv 0) rfl) (KX.fld (K := K) rfl (pv 1) rfl) (nomark _))))))), ?_⟩
    rcases hc with ⟨q, fs', xs, ys, bs, rfl, ⟨d2, g2⟩, nw1, nw2, m1, m2, ha, k⟩ | ⟨ty, ht, hk, k⟩
    · obtain ⟨x1, x2, y1, y2, b1, b2, rfl, l1, r1, p1, l2, r2, p2⟩ := inv2 m1 m2 ha
      tm_at "s"
      refine s_isiC (T.ty (j := 15) (by decide) g2) (T.kC (j := 15) (by decide)) ?_
      tm_at "s"
      refine ⟨p, _, d1, _, _, rfl, g1, T.cl 15 (by decide), T.fld 15 (by decide) "late" (by decide), l1, ?_⟩
      tm_at "s"
      refine ⟨q, _, d2, _, _, rfl, g2, T.cl 15 (by decide), T.fld 15 (by decide) "late" (by decide), r1, ?_⟩
      tm_at "s"
      have kk := k _ (Ex.refl _)
      refine ⟨b1, p1, ?_⟩
      tm_at "s"
      refine iteB (fun z => ?_) (fun z => ?_)
      · tm_at "s"
        refine ⟨p, _, d1, _, _, rfl, g1, T.cl 15 (by decide), T.fld 15 (by decide) "rest" (by decide), l2, ?_⟩
        tm_at "s"
        refine ⟨q, _, d2, _, _, rfl, g2, T.cl 15 (by decide), T.fld 15 (by decide) "rest" (by decide), r2, ?_⟩
        tm_at "s"
        rw [z] at kk
        exact ⟨b2, p2, by simpa using kk⟩
      · tm_at "s"
        rw [z] at kk
        simpa using kk
    · tm_at "s"
      refine s_isiC ht hk ?_
      tm_at "s"
      exact k _ (Ex.refl _)
theorem ok_eq_Endless {f : Addr} {fd : FuncData} (F : Fun K "__eq__" "Endless.__eq__" s_Endless___eq__ f fd) (T : Txt K mg cs CP CD fb) : FnOk P w K mg base (L2.CX P w) 2 f fd ["self", "other"] (spEqC K (cs.getD 16 0) ["residue", "begin"]) := by
  refine funO F sc_Endless___eq__ (fun vs H Q E h => ?_) (fun cd A fr s H vs Q E hr h => ?_)
  · obtain ⟨p, y, fs, rfl, _⟩ := h; rfl
  · obtain ⟨p, y, fs, rfl, ⟨d1, g1⟩, hc⟩ := h
    refine ⟨_, (pss_one (ps_ret (pe_and (pe_callB (KX.callIsi (K := K)) (by rfl) T.b_isinstance (by decide +kernel) (pa_cons (pv 1) (pa_cons (C8.pe_gc (by rfl) T.g_Endless) pa_nil))) (pe_and (pe_cmpR (KX.pq (K := K) rfl hr.units) (KX.fld (K := K) rfl (pv 0) rfl) (KX.fld (K := K) rfl (pv 1) rfl) (nomark _)) (pe_one (pe_cmpR (KX.pq (K := K) rfl hr.units) (KX.fld (K := K) rfl (pv 0) rfl) (KX.fld (K := K) rfl (pv 1) rfl) (nomark _))))))), ?_⟩
    rcases hc with ⟨q, fs', xs, ys, bs, rfl, ⟨d2, g2⟩, nw1, nw2, m1, m2, ha, k⟩ | ⟨ty, ht, hk, k⟩
    · obtain ⟨x1, x2, y1, y2, b1, b2, rfl, l1, r1, p1, l2, r2, p2⟩ := inv2 m1 m2 ha
      tm_at "s"
      refine s_isiC (T.ty (j := 16) (by decide) g2) (T.kC (j := 16) (by decide)) ?_
      tm_at "s"
      refine ⟨p, _, d1, _, _, rfl, g1, T.cl 16 (by decide), T.fld 16 (by decide) "residue" (by decide), l1, ?_⟩
      tm_at "s"
      refine ⟨q, _, d2, _, _, rfl, g2, T.cl 16 (by decide), T.fld 16 (by decide) "residue" (by decide), r1, ?_⟩
      tm_at "s"
      have kk := k _ (Ex.refl _)
      refine ⟨b1, p1, ?_⟩
      tm_at "s"
      refine iteB (fun z => ?_) (fun z => ?_)
      · tm_at "s"
        refine ⟨p, _, d1, _, _, rfl, g1, T.cl 16 (by decide), T.fld 16 (by decide) "begin" (by decide), l2, ?_⟩
        tm_at "s"
        refine ⟨q, _, d2, _, _, rfl, g2, T.cl 16 (by decide), T.fld 16 (by decide) "begin" (by decide), r2, ?_⟩
        tm_at "s"
        rw [z] at kk
        exact ⟨b2, p2, by simpa using kk⟩
      · tm_at "s"
        rw [z] at kk
        simpa using kk
    · tm_at "s"
      refine s_isiC ht hk ?_
      tm_at "s"
      exact k _ (Ex.refl _)
theorem ok_eq_Within {f : Addr} {fd : FuncData} (F : Fun K "__eq__" "Within.__eq__" s_Within___eq__ f fd) (T : Txt K mg cs CP CD fb) : FnOk P w K mg base (L2.CX P w) 2 f fd ["self", "other"] (spEqC K (cs.getD 17 0) ["table"]) := by
  refine funO F sc_Within___eq__ (fun vs H Q E h => ?_) (fun cd A fr s H vs Q E hr h => ?_)
  · obtain ⟨p, y, fs, rfl, _⟩ := h; rfl
  · obtain ⟨p, y, fs, rfl, ⟨d1, g1⟩, hc⟩ := h
    refine ⟨_, (pss_one (ps_ret (pe_and (pe_callB (KX.callIsi (K := K)) (by rfl) T.b_isinstance (by decide +kernel) (pa_cons (pv 1) (pa_cons (C8.pe_gc (by rfl) T.g_Within) pa_nil))) (pe_one (pe_cmpR (KX.pq (K := K) rfl hr.units) (KX.fld (K := K) rfl (pv 0) rfl) (KX.fld (K := K) rfl (pv 1) rfl) (nomark _)))))), ?_⟩
    rcases hc with ⟨q, fs', xs, ys, bs, rfl, ⟨d2, g2⟩, nw1, nw2, m1, m2, ha, k⟩ | ⟨ty, ht, hk, k⟩
    · obtain ⟨x1, y1, b1, rfl, l1, r1, p1⟩ := inv1 m1 m2 ha
      tm_at "s"
      refine s_isiC (T.ty (j := 17) (by decide) g2) (T.kC (j := 17) (by decide)) ?_
      tm_at "s"
      refine ⟨p, _, d1, _, _, rfl, g1, T.cl 17 (by decide), T.fld 17 (by decide) "table" (by decide), l1, ?_⟩
      tm_at "s"
      refine ⟨q, _, d2, _, _, rfl, g2, T.cl 17 (by decide), T.fld 17 (by decide) "table" (by decide), r1, ?_⟩
      tm_at "s"
      have kk := k _ (Ex.refl _)
      rw [all1] at kk
      exact ⟨b1, p1, kk⟩
    · tm_at "s"
      refine s_isiC ht hk ?_
      tm_at "s"
      exact k _ (Ex.refl _)
theorem ok_eq_Beyond {f : Addr} {fd : FuncData} (F : Fun K "__eq__" "Beyond.__eq__" s_Beyond___eq__ f fd) (T : Txt K mg cs CP CD fb) : FnOk P w K mg base (L2.CX P w) 2 f fd ["self", "other"] (spEqC K (cs.getD 18 0) ["rest", "late"]) := by
  refine funO F sc_Beyond___eq__ (fun vs H Q E h => ?_) (fun cd A fr s H vs Q E hr h => ?_)
  · obtain ⟨p, y, fs, rfl, _⟩ := h; rfl
  · obtain ⟨p, y, fs, rfl, ⟨d1, g1⟩, hc⟩ := h
    refine ⟨_, (pss_one (ps_ret (pe_and (pe_callB (KX.callIsi (K := K)) (by rfl) T.b_isinstance (by decide +kernel) (pa_cons (pv 1) (pa_cons (C8.pe_gc (by rfl) T.g_Beyond) pa_nil))) (pe_and (pe_cmpR (KX.pq (K := K) rfl hr.units) (KX.fld (K := K) rfl (pv 0) rfl) (KX.fld (K := K) rfl (pv 1) rfl) (nomark _)) (pe_one (pe_cmpR (KX.pq (K := K) rfl hr.units) (KX.fld (K := K) rfl (pv 0) rfl) (KX.fld (K := K) rfl (pv 1) rfl) (nomark _))))))), ?_⟩
    rcases hc with ⟨q, fs', xs, ys, bs, rfl, ⟨d2, g2⟩, nw1, nw2, m1, m2, ha, k⟩ | ⟨ty, ht, hk, k⟩
    · obtain ⟨x1, x2, y1, y2, b1, b2, rfl, l1, r1, p1, l2, r2, p2⟩ := inv2 m1 m2 ha
      tm_at "s"
      refine s_isiC (T.ty (j := 18) (by decide) g2) (T.kC (j := 18) (by decide)) ?_
      tm_at "s"
      refine ⟨p, _, d1, _, _, rfl, g1, T.cl 18 (by decide), T.fld 18 (by decide) "rest" (by decide), l1, ?_⟩
      tm_at "s"
      refine ⟨q, _, d2, _, _, rfl, g2, T.cl 18 (by decide), T.fld 18 (by decide) "rest" (by decide), r1, ?_⟩
      tm_at "s"
      have kk := k _ (Ex.refl _)
      refine ⟨b1, p1, ?_⟩
      tm_at "s"
      refine iteB (fun z => ?_) (fun z => ?_)
      · tm_at "s"
        refine ⟨p, _, d1, _, _, rfl, g1, T.cl 18 (by decide), T.fld 18 (by decide) "late" (by decide), l2, ?_⟩
        tm_at "s"
        refine ⟨q, _, d2, _, _, rfl, g2, T.cl 18 (by decide), T.fld 18 (by decide) "late" (by decide), r2, ?_⟩
        tm_at "s"
        rw [z] at kk
        exact ⟨b2, p2, by simpa using kk⟩
      · tm_at "s"
        rw [z] at kk
        simpa using kk
    · tm_at "s"
      refine s_isiC ht hk ?_
      tm_at "s"
      exact k _ (Ex.refl _)
theorem ok_eq_Latest {f : Addr} {fd : FuncData} (F : Fun K "__eq__" "Latest.__eq__" s_Latest___eq__ f fd) (T : Txt K mg cs CP CD fb) : FnOk P w K mg base (L2.CX P w) 2 f fd ["self", "other"] (spEqC K (cs.getD 19 0) ["late", "at", "world"]) := by
  refine funO F sc_Latest___eq__ (fun vs H Q E h => ?_) (fun cd A fr s H vs Q E hr h => ?_)
  · obtain ⟨p, y, fs, rfl, _⟩ := h; rfl
  · obtain ⟨p, y, fs, rfl, ⟨d1, g1⟩, hc⟩ := h
    refine ⟨_, (pss_cons (ps_if (PW.pt (pw_or (pt_not (pt_val (pe_callB (KX.callIsi (K := K)) (by rfl) T.b_isinstance (by decide +kernel) (pa_cons (pv 1) (pa_cons (C8.pe_gc (by rfl) T.g_Latest) pa_nil))))) (pw_or1 (pt_cmpR (KX.nq (K := K) rfl hr.units) (KX.fld (K := K) rfl (pv 0) rfl) (KX.fld (K := K) rfl (pv 1) rfl) (nomark _))))) (pss_one (ps_ret pe_bl)) pss_nil)
      (pss_one (ps_ret (pe_and (pe_cmpR (KX.pq (K := K) rfl hr.units) (KX.fld (K := K) rfl (pv 0) rfl) (KX.fld (K := K) rfl (pv 1) rfl) (nomark _)) (pe_one (pe_cmpR (KX.pq (K := K) rfl hr.units) (KX.fld (K := K) rfl (pv 0) rfl) (KX.fld (K := K) rfl (pv 1) rfl) (nomark _))))))), ?_⟩
    rcases hc with ⟨q, fs', xs, ys, bs, rfl, ⟨d2, g2⟩, nw1, nw2, m1, m2, ha, k⟩ | ⟨ty, ht, hk, k⟩
    · obtain ⟨x1, x2, x3, y1, y2, y3, b1, b2, b3, rfl, l1, r1, p1, l2, r2, p2, l3, r3, p3⟩ := inv3 m1 m2 ha
      tm_at "s"
      refine s_isiC (T.ty (j := 19) (by decide) g2) (T.kC (j := 19) (by decide)) ?_
      tm_at "s"
      refine ⟨p, _, d1, _, _, rfl, g1, T.cl 19 (by decide), T.fld 19 (by decide) "late" (by decide), l1, ?_⟩
      tm_at "s"
      refine ⟨q, _, d2, _, _, rfl, g2, T.cl 19 (by decide), T.fld 19 (by decide) "late" (by decide), r1, ?_⟩
      tm_at "s"
      refine ⟨b1, p1, ?_⟩
      tm_at "s"
      refine iteB (fun z => ?_) (fun z => ?_)
      · tm_at "s"
        have kk := k _ (Ex.refl _)
        rw [show b1 = false by simpa using z] at kk
        simpa using kk
      have z1 : b1 = true := by simpa using z
      tm_at "s"
      refine ⟨p, _, d1, _, _, rfl, g1, T.cl 19 (by decide), T.fld 19 (by decide) "at" (by decide), l2, ?_⟩
      tm_at "s"
      refine ⟨q, _, d2, _, _, rfl, g2, T.cl 19 (by decide), T.fld 19 (by decide) "at" (by decide), r2, ?_⟩
      tm_at "s"
      have kk := k _ (Ex.refl _)
      rw [z1] at kk
      refine ⟨b2, p2, ?_⟩
      tm_at "s"
      refine iteB (fun z => ?_) (fun z => ?_)
      · tm_at "s"
        refine ⟨p, _, d1, _, _, rfl, g1, T.cl 19 (by decide), T.fld 19 (by decide) "world" (by decide), l3, ?_⟩
        tm_at "s"
        refine ⟨q, _, d2, _, _, rfl, g2, T.cl 19 (by decide), T.fld 19 (by decide) "world" (by decide), r3, ?_⟩
        tm_at "s"
        rw [z] at kk
        exact ⟨b3, p3, by simpa using kk⟩
      · tm_at "s"
        rw [z] at kk
        simpa using kk
    · tm_at "s"
      refine s_isiC ht hk ?_
      tm_at "s"
      exact k _ (Ex.refl _)
theorem ok_eq_Taking {f : Addr} {fd : FuncData} (F : Fun K "__eq__" "Taking.__eq__" s_Taking___eq__ f fd) (T : Txt K mg cs CP CD fb) : FnOk P w K mg base (L2.CX P w) 2 f fd ["self", "other"] (spEqC K (cs.getD 20 0) ["worker", "at", "begun", "ended"]) := by
  refine funO F sc_Taking___eq__ (fun vs H Q E h => ?_) (fun cd A fr s H vs Q E hr h => ?_)
  · obtain ⟨p, y, fs, rfl, _⟩ := h; rfl
  · obtain ⟨p, y, fs, rfl, ⟨d1, g1⟩, hc⟩ := h
    refine ⟨_, (pss_cons (ps_if (pt_not (pt_val (pe_callB (KX.callIsi (K := K)) (by rfl) T.b_isinstance (by decide +kernel) (pa_cons (pv 1) (pa_cons (C8.pe_gc (by rfl) T.g_Taking) pa_nil))))) (pss_one (ps_ret pe_bl)) pss_nil)
      (pss_cons (ps_set (i := 2) sc_Taking___eq__.nd rfl (Or.inl rfl) (pe_tup (pa_cons (KX.fld (K := K) rfl (pv 0) rfl) (pa_cons (KX.fld (K := K) rfl (pv 0) rfl) (pa_cons (KX.fld (K := K) rfl (pv 0) rfl) (pa_cons (KX.fld (K := K) rfl (pv 0) rfl) pa_nil))))))
      (pss_one (ps_ret (pe_cmpR (KX.tq (K := K) rfl (units66 hr)) (pv 2) (pe_tup (pa_cons (KX.fld (K := K) rfl (pv 1) rfl) (pa_cons (KX.fld (K := K) rfl (pv 1) rfl) (pa_cons (KX.fld (K := K) rfl (pv 1) rfl) (pa_cons (KX.fld (K := K) rfl (pv 1) rfl) pa_nil))))) (nomark _)))))), ?_⟩
    rcases hc with ⟨q, fs', xs, ys, bs, rfl, ⟨d2, g2⟩, nw1, nw2, m1, m2, ha, k⟩ | ⟨ty, ht, hk, k⟩
    · obtain ⟨x1, x2, x3, x4, y1, y2, y3, y4, b1, b2, b3, b4, rfl, l1, r1, p1, l2, r2, p2, l3, r3, p3, l4, r4, p4⟩ := inv4 m1 m2 ha
      tm_at "s"
      refine s_isiC (T.ty (j := 20) (by decide) g2) (T.kC (j := 20) (by decide)) ?_
      tm_at "s"
      refine ⟨p, _, d1, _, _, rfl, g1, T.cl 20 (by decide), T.fld 20 (by decide) "worker" (by decide), l1, ?_⟩
      tm_at "s"
      refine ⟨p, _, d1, _, _, rfl, g1, T.cl 20 (by decide), T.fld 20 (by decide) "at" (by decide), l2, ?_⟩
      tm_at "s"
      refine ⟨p, _, d1, _, _, rfl, g1, T.cl 20 (by decide), T.fld 20 (by decide) "begun" (by decide), l3, ?_⟩
      tm_at "s"
      refine ⟨p, _, d1, _, _, rfl, g1, T.cl 20 (by decide), T.fld 20 (by decide) "ended" (by decide), l4, ?_⟩
      tm_at "s"
      refine s_new (Nat.le_of_lt (small1000 (by simp))) fun t1 H1 ht1 e1 h1 => ?_
      tm_at "s"
      have g1 := e1 _ _ g1
      have g2 := e1 _ _ g2
      refine ⟨q, _, d2, _, _, rfl, g2, T.cl 20 (by decide), T.fld 20 (by decide) "worker" (by decide), r1, ?_⟩
      tm_at "s"
      refine ⟨q, _, d2, _, _, rfl, g2, T.cl 20 (by decide), T.fld 20 (by decide) "at" (by decide), r2, ?_⟩
      tm_at "s"
      refine ⟨q, _, d2, _, _, rfl, g2, T.cl 20 (by decide), T.fld 20 (by decide) "begun" (by decide), r3, ?_⟩
      tm_at "s"
      refine ⟨q, _, d2, _, _, rfl, g2, T.cl 20 (by decide), T.fld 20 (by decide) "ended" (by decide), r4, ?_⟩
      tm_at "s"
      refine s_new (Nat.le_of_lt (small1000 (by simp))) fun t2 H2 ht2 e2 h2 => ?_
      refine ⟨t1, t2, _, _, _, rfl, rfl, e2 _ _ h1, h2, (.cons (p1.ex (e1.trans e2)) (.cons (p2.ex (e1.trans e2)) (.cons (p3.ex (e1.trans e2)) (.cons (p4.ex (e1.trans e2)) .nil)))), ?_⟩
      exact k _ (e1.trans e2)
    · tm_at "s"
      refine s_isiC ht hk ?_
      tm_at "s"
      exact k _ (Ex.refl _)
theorem ok_eq_Fits {f : Addr} {fd : FuncData} (F : Fun K "__eq__" "Fits.__eq__" s_Fits___eq__ f fd) (T : Txt K mg cs CP CD fb) : FnOk P w K mg base (L2.CX P w) 2 f fd ["self", "other"] (spEqC K (cs.getD 21 0) ["world"]) := by
  refine funO F sc_Fits___eq__ (fun vs H Q E h => ?_) (fun cd A fr s H vs Q E hr h => ?_)
  · obtain ⟨p, y, fs, rfl, _⟩ := h; rfl
  · obtain ⟨p, y, fs, rfl, ⟨d1, g1⟩, hc⟩ := h
    refine ⟨_, (pss_one (ps_ret (pe_and (pe_callB (KX.callIsi (K := K)) (by rfl) T.b_isinstance (by decide +kernel) (pa_cons (pv 1) (pa_cons (C8.pe_gc (by rfl) T.g_Fits) pa_nil))) (pe_one (pe_cmpR (KX.pq (K := K) rfl hr.units) (KX.fld (K := K) rfl (pv 0) rfl) (KX.fld (K := K) rfl (pv 1) rfl) (nomark _)))))), ?_⟩
    rcases hc with ⟨q, fs', xs, ys, bs, rfl, ⟨d2, g2⟩, nw1, nw2, m1, m2, ha, k⟩ | ⟨ty, ht, hk, k⟩
    · obtain ⟨x1, y1, b1, rfl, l1, r1, p1⟩ := inv1 m1 m2 ha
      tm_at "s"
      refine s_isiC (T.ty (j := 21) (by decide) g2) (T.kC (j := 21) (by decide)) ?_
      tm_at "s"
      refine ⟨p, _, d1, _, _, rfl, g1, T.cl 21 (by decide), T.fld 21 (by decide) "world" (by decide), l1, ?_⟩
      tm_at "s"
      refine ⟨q, _, d2, _, _, rfl, g2, T.cl 21 (by decide), T.fld 21 (by decide) "world" (by decide), r1, ?_⟩
      tm_at "s"
      have kk := k _ (Ex.refl _)
      rw [all1] at kk
      exact ⟨b1, p1, kk⟩
    · tm_at "s"
      refine s_isiC ht hk ?_
      tm_at "s"
      exact k _ (Ex.refl _)
theorem ok_eq_Misfit {f : Addr} {fd : FuncData} (F : Fun K "__eq__" "Misfit.__eq__" s_Misfit___eq__ f fd) (T : Txt K mg cs CP CD fb) : FnOk P w K mg base (L2.CX P w) 2 f fd ["self", "other"] (spEqC K (cs.getD 22 0) ["at", "why"]) := by
  refine funO F sc_Misfit___eq__ (fun vs H Q E h => ?_) (fun cd A fr s H vs Q E hr h => ?_)
  · obtain ⟨p, y, fs, rfl, _⟩ := h; rfl
  · obtain ⟨p, y, fs, rfl, ⟨d1, g1⟩, hc⟩ := h
    refine ⟨_, (pss_one (ps_ret (pe_and (pe_callB (KX.callIsi (K := K)) (by rfl) T.b_isinstance (by decide +kernel) (pa_cons (pv 1) (pa_cons (C8.pe_gc (by rfl) T.g_Misfit) pa_nil))) (pe_one (pe_cmpR (KX.tq (K := K) rfl (units66 hr)) (pe_tup (pa_cons (KX.fld (K := K) rfl (pv 0) rfl) (pa_cons (KX.fld (K := K) rfl (pv 0) rfl) pa_nil))) (pe_tup (pa_cons (KX.fld (K := K) rfl (pv 1) rfl) (pa_cons (KX.fld (K := K) rfl (pv 1) rfl) pa_nil))) (nomark _)))))), ?_⟩
    rcases hc with ⟨q, fs', xs, ys, bs, rfl, ⟨d2, g2⟩, nw1, nw2, m1, m2, ha, k⟩ | ⟨ty, ht, hk, k⟩
    · obtain ⟨x1, x2, y1, y2, b1, b2, rfl, l1, r1, p1, l2, r2, p2⟩ := inv2 m1 m2 ha
      tm_at "s"
      refine s_isiC (T.ty (j := 22) (by decide) g2) (T.kC (j := 22) (by decide)) ?_
      tm_at "s"
      refine ⟨p, _, d1, _, _, rfl, g1, T.cl 22 (by decide), T.fld 22 (by decide) "at" (by decide), l1, ?_⟩
      tm_at "s"
      refine ⟨p, _, d1, _, _, rfl, g1, T.cl 22 (by decide), T.fld 22 (by decide) "why" (by decide), l2, ?_⟩
      tm_at "s"
      refine s_new (Nat.le_of_lt (small1000 (by simp))) fun t1 H1 ht1 e1 h1 => ?_
      tm_at "s"
      have g1 := e1 _ _ g1
      have g2 := e1 _ _ g2
      refine ⟨q, _, d2, _, _, rfl, g2, T.cl 22 (by decide), T.fld 22 (by decide) "at" (by decide), r1, ?_⟩
      tm_at "s"
      refine ⟨q, _, d2, _, _, rfl, g2, T.cl 22 (by decide), T.fld 22 (by decide) "why" (by decide), r2, ?_⟩
      tm_at "s"
      refine s_new (Nat.le_of_lt (small1000 (by simp))) fun t2 H2 ht2 e2 h2 => ?_
      refine ⟨t1, t2, _, _, _, rfl, rfl, e2 _ _ h1, h2, (.cons (p1.ex (e1.trans e2)) (.cons (p2.ex (e1.trans e2)) .nil)), ?_⟩
      exact k _ (e1.trans e2)
    · tm_at "s"
      refine s_isiC ht hk ?_
      tm_at "s"
      exact k _ (Ex.refl _)
theorem ok_eq_Ring {f : Addr} {fd : FuncData} (F : Fun K "__eq__" "Ring.__eq__" s_Ring___eq__ f fd) (T : Txt K mg cs CP CD fb) : FnOk P w K mg base (L2.CX P w) 2 f fd ["self", "other"] (spEqC K (cs.getD 23 0) ["workers"]) := by
  refine funO F sc_Ring___eq__ (fun vs H Q E h => ?_) (fun cd A fr s H vs Q E hr h => ?_)
  · obtain ⟨p, y, fs, rfl, _⟩ := h; rfl
  · obtain ⟨p, y, fs, rfl, ⟨d1, g1⟩, hc⟩ := h
    refine ⟨_, (pss_one (ps_ret (pe_and (pe_callB (KX.callIsi (K := K)) (by rfl) T.b_isinstance (by decide +kernel) (pa_cons (pv 1) (pa_cons (C8.pe_gc (by rfl) T.g_Ring) pa_nil))) (pe_one (pe_cmpR (KX.pq (K := K) rfl hr.units) (KX.fld (K := K) rfl (pv 0) rfl) (KX.fld (K := K) rfl (pv 1) rfl) (nomark _)))))), ?_⟩
    rcases hc with ⟨q, fs', xs, ys, bs, rfl, ⟨d2, g2⟩, nw1, nw2, m1, m2, ha, k⟩ | ⟨ty, ht, hk, k⟩
    · obtain ⟨x1, y1, b1, rfl, l1, r1, p1⟩ := inv1 m1 m2 ha
      tm_at "s"
      refine s_isiC (T.ty (j := 23) (by decide) g2) (T.kC (j := 23) (by decide)) ?_
      tm_at "s"
      refine ⟨p, _, d1, _, _, rfl, g1, T.cl 23 (by decide), T.fld 23 (by decide) "workers" (by decide), l1, ?_⟩
      tm_at "s"
      refine ⟨q, _, d2, _, _, rfl, g2, T.cl 23 (by decide), T.fld 23 (by decide) "workers" (by decide), r1, ?_⟩
      tm_at "s"
      have kk := k _ (Ex.refl _)
      rw [all1] at kk
      exact ⟨b1, p1, kk⟩
    · tm_at "s"
      refine s_isiC ht hk ?_
      tm_at "s"
      exact k _ (Ex.refl _)
theorem ok_eq_Came {f : Addr} {fd : FuncData} (F : Fun K "__eq__" "Came.__eq__" s_Came___eq__ f fd) (T : Txt K mg cs CP CD fb) : FnOk P w K mg base (L2.CX P w) 2 f fd ["self", "other"] (spEqC K (cs.getD 24 0) ["least", "most"]) := by
  refine funO F sc_Came___eq__ (fun vs H Q E h => ?_) (fun cd A fr s H vs Q E hr h => ?_)
  · obtain ⟨p, y, fs, rfl, _⟩ := h; rfl
  · obtain ⟨p, y, fs, rfl, ⟨d1, g1⟩, hc⟩ := h
    refine ⟨_, (pss_one (ps_ret (pe_and (pe_callB (KX.callIsi (K := K)) (by rfl) T.b_isinstance (by decide +kernel) (pa_cons (pv 1) (pa_cons (C8.pe_gc (by rfl) T.g_Came) pa_nil))) (pe_one (pe_cmpR (KX.tq (K := K) rfl (units66 hr)) (pe_tup (pa_cons (KX.fld (K := K) rfl (pv 0) rfl) (pa_cons (KX.fld (K := K) rfl (pv 0) rfl) pa_nil))) (pe_tup (pa_cons (KX.fld (K := K) rfl (pv 1) rfl) (pa_cons (KX.fld (K := K) rfl (pv 1) rfl) pa_nil))) (nomark _)))))), ?_⟩
    rcases hc with ⟨q, fs', xs, ys, bs, rfl, ⟨d2, g2⟩, nw1, nw2, m1, m2, ha, k⟩ | ⟨ty, ht, hk, k⟩
    · obtain ⟨x1, x2, y1, y2, b1, b2, rfl, l1, r1, p1, l2, r2, p2⟩ := inv2 m1 m2 ha
      tm_at "s"
      refine s_isiC (T.ty (j := 24) (by decide) g2) (T.kC (j := 24) (by decide)) ?_
      tm_at "s"
      refine ⟨p, _, d1, _, _, rfl, g1, T.cl 24 (by decide), T.fld 24 (by decide) "least" (by decide), l1, ?_⟩
      tm_at "s"
      refine ⟨p, _, d1, _, _, rfl, g1, T.cl 24 (by decide), T.fld 24 (by decide) "most" (by decide), l2, ?_⟩
      tm_at "s"
      refine s_new (Nat.le_of_lt (small1000 (by simp))) fun t1 H1 ht1 e1 h1 => ?_
      tm_at "s"
      have g1 := e1 _ _ g1
      have g2 := e1 _ _ g2
      refine ⟨q, _, d2, _, _, rfl, g2, T.cl 24 (by decide), T.fld 24 (by decide) "least" (by decide), r1, ?_⟩
      tm_at "s"
      refine ⟨q, _, d2, _, _, rfl, g2, T.cl 24 (by decide), T.fld 24 (by decide) "most" (by decide), r2, ?_⟩
      tm_at "s"
      refine s_new (Nat.le_of_lt (small1000 (by simp))) fun t2 H2 ht2 e2 h2 => ?_
      refine ⟨t1, t2, _, _, _, rfl, rfl, e2 _ _ h1, h2, (.cons (p1.ex (e1.trans e2)) (.cons (p2.ex (e1.trans e2)) .nil)), ?_⟩
      exact k _ (e1.trans e2)
    · tm_at "s"
      refine s_isiC ht hk ?_
      tm_at "s"
      exact k _ (Ex.refl _)
theorem ok_eq_BestOrder {f : Addr} {fd : FuncData} (F : Fun K "__eq__" "BestOrder.__eq__" s_BestOrder___eq__ f fd) (T : Txt K mg cs CP CD fb) : FnOk P w K mg base (L2.CX P w) 2 f fd ["self", "other"] (spEqC K (cs.getD 25 0) ["names", "late", "last"]) := by
  refine funO F sc_BestOrder___eq__ (fun vs H Q E h => ?_) (fun cd A fr s H vs Q E hr h => ?_)
  · obtain ⟨p, y, fs, rfl, _⟩ := h; rfl
  · obtain ⟨p, y, fs, rfl, ⟨d1, g1⟩, hc⟩ := h
    refine ⟨_, (pss_cons (ps_if (PW.pt (pw_or (pt_not (pt_val (pe_callB (KX.callIsi (K := K)) (by rfl) T.b_isinstance (by decide +kernel) (pa_cons (pv 1) (pa_cons (C8.pe_gc (by rfl) T.g_BestOrder) pa_nil))))) (pw_or1 (pt_cmpR (KX.nq (K := K) rfl hr.units) (KX.fld (K := K) rfl (pv 0) rfl) (KX.fld (K := K) rfl (pv 1) rfl) (nomark _))))) (pss_one (ps_ret pe_bl)) pss_nil)
      (pss_one (ps_ret (pe_cmpR (KX.tq (K := K) rfl (units66 hr)) (pe_tup (pa_cons (KX.fld (K := K) rfl (pv 0) rfl) (pa_cons (KX.fld (K := K) rfl (pv 0) rfl) pa_nil))) (pe_tup (pa_cons (KX.fld (K := K) rfl (pv 1) rfl) (pa_cons (KX.fld (K := K) rfl (pv 1) rfl) pa_nil))) (nomark _))))), ?_⟩
    rcases hc with ⟨q, fs', xs, ys, bs, rfl, ⟨d2, g2⟩, nw1, nw2, m1, m2, ha, k⟩ | ⟨ty, ht, hk, k⟩
    · obtain ⟨x1, x2, x3, y1, y2, y3, b1, b2, b3, rfl, l1, r1, p1, l2, r2, p2, l3, r3, p3⟩ := inv3 m1 m2 ha
      tm_at "s"
      refine s_isiC (T.ty (j := 25) (by decide) g2) (T.kC (j := 25) (by decide)) ?_
      tm_at "s"
      refine ⟨p, _, d1, _, _, rfl, g1, T.cl 25 (by decide), T.fld 25 (by decide) "names" (by decide), l1, ?_⟩
      tm_at "s"
      refine ⟨q, _, d2, _, _, rfl, g2, T.cl 25 (by decide), T.fld 25 (by decide) "names" (by decide), r1, ?_⟩
      tm_at "s"
      refine ⟨b1, p1, ?_⟩
      tm_at "s"
      refine iteB (fun z => ?_) (fun z => ?_)
      · tm_at "s"
        have kk := k _ (Ex.refl _)
        rw [show b1 = false by simpa using z] at kk
        simpa using kk
      have z1 : b1 = true := by simpa using z
      tm_at "s"
      refine ⟨p, _, d1, _, _, rfl, g1, T.cl 25 (by decide), T.fld 25 (by decide) "late" (by decide), l2, ?_⟩
      tm_at "s"
      refine ⟨p, _, d1, _, _, rfl, g1, T.cl 25 (by decide), T.fld 25 (by decide) "last" (by decide), l3, ?_⟩
      tm_at "s"
      refine s_new (Nat.le_of_lt (small1000 (by simp))) fun t1 H1 ht1 e1 h1 => ?_
      tm_at "s"
      have g1 := e1 _ _ g1
      have g2 := e1 _ _ g2
      refine ⟨q, _, d2, _, _, rfl, g2, T.cl 25 (by decide), T.fld 25 (by decide) "late" (by decide), r2, ?_⟩
      tm_at "s"
      refine ⟨q, _, d2, _, _, rfl, g2, T.cl 25 (by decide), T.fld 25 (by decide) "last" (by decide), r3, ?_⟩
      tm_at "s"
      refine s_new (Nat.le_of_lt (small1000 (by simp))) fun t2 H2 ht2 e2 h2 => ?_
      refine ⟨t1, t2, _, _, _, rfl, rfl, e2 _ _ h1, h2, (.cons (p2.ex (e1.trans e2)) (.cons (p3.ex (e1.trans e2)) .nil)), ?_⟩
      have kk := k _ (e1.trans e2)
      rw [z1] at kk
      exact kk
    · tm_at "s"
      refine s_isiC ht hk ?_
      tm_at "s"
      exact k _ (Ex.refl _)
theorem ok_eq_PoolTaking {f : Addr} {fd : FuncData} (F : Fun K "__eq__" "PoolTaking.__eq__" s_PoolTaking___eq__ f fd) (T : Txt K mg cs CP CD fb) (c_own_row : MeK P w K mg base (cs.getD 26 0) "own_row" 1 (spOwnRow (cs.getD 26 0))) : FnOk P w K mg base (L2.CX P w) 2 f fd ["self", "other"] (spEqC K (cs.getD 26 0) ["loop", "worker", "many", "begun", "ended"]) := by
  refine funO F sc_PoolTaking___eq__ (fun vs H Q E h => ?_) (fun cd A fr s H vs Q E hr h => ?_)
  · obtain ⟨p, y, fs, rfl, _⟩ := h; rfl
  · obtain ⟨p, y, fs, rfl, ⟨d1, g1⟩, hc⟩ := h
    refine ⟨_, (pss_one (ps_ret (pe_and (pe_callB (KX.callIsi (K := K)) (by rfl) T.b_isinstance (by decide +kernel) (pa_cons (pv 1) (pa_cons (C8.pe_gc (by rfl) T.g_PoolTaking) pa_nil))) (pe_one (pe_cmpR (KX.tq (K := K) rfl (units66 hr)) (pe_m0 c_own_row (T.cl 26 (by decide)) hr passF (pv 0)) (pe_m0 c_own_row (T.cl 26 (by decide)) hr passF (pv 1)) (nomark _)))))), ?_⟩
    rcases hc with ⟨q, fs', xs, ys, bs, rfl, ⟨d2, g2⟩, nw1, nw2, m1, m2, ha, k⟩ | ⟨ty, ht, hk, k⟩
    · obtain ⟨x1, x2, x3, x4, x5, y1, y2, y3, y4, y5, b1, b2, b3, b4, b5, rfl, l1, r1, p1, l2, r2, p2, l3, r3, p3, l4, r4, p4, l5, r5, p5⟩ := inv5 m1 m2 ha
      tm_at "s"
      refine s_isiC (T.ty (j := 26) (by decide) g2) (T.kC (j := 26) (by decide)) ?_
      tm_at "s"
      refine ⟨.ref p, rfl, p, d1, fs, rfl, g1, nw1, p, fs, x1, x2, x3, x4, x5, rfl, ⟨d1, g1⟩, l1, l2, l3, l4, l5, fun t1 H1 e1 h1 => ?_⟩
      refine ⟨.ref q, rfl, q, d2, fs', rfl, e1 _ _ g2, nw2, q, fs', y1, y2, y3, y4, y5, rfl, ⟨d2, e1 _ _ g2⟩, r1, r2, r3, r4, r5, fun t2 H2 e2 h2 => ?_⟩
      refine ⟨t1, t2, _, _, _, rfl, rfl, e2 _ _ h1, h2, (.cons (p1.ex (e1.trans e2)) (.cons (p2.ex (e1.trans e2)) (.cons (p3.ex (e1.trans e2)) (.cons (p4.ex (e1.trans e2)) (.cons (p5.ex (e1.trans e2)) .nil))))), ?_⟩
      exact k _ (e1.trans e2)
    · tm_at "s"
      refine s_isiC ht hk ?_
      tm_at "s"
      exact k _ (Ex.refl _)
end
end K03
end
section
local macro_rules | `(tactic| tm_at "s1") => `(tactic| first
  | with_reducible first
    | refine L3.s_seq ?_ | refine L3.s_asg ?_ | refine L3.s_op ?_ | refine L3.s_c ?_ | refine L3.s_cb ?_ | refine L3.s_cons ?_ | refine L3.s_nil ?_ | refine L3.s_test ?_ | refine L3.s_bl ?_
    | refine L3.s_I0 ?_ | refine L3.s_and ?_ | refine L3.s_or ?_ | refine L3.s_not ?_ | refine L3.s_if ?_ | refine L3.s_next ?_ | refine L3.s_ret ?_ | refine L3.s_retN ?_ | refine L3.s_asgS ?_ | refine L3.s_drop ?_
    | refine L3.s_un ?_ | refine L3.s_U ?_ | refine L3.s_int ?_ | refine L3.s_intB ?_ | refine L3.s_abs ?_ | refine L3.s_andV ?_ | refine L3.s_orV ?_ | refine L3.s_notV ?_ | refine L3.s_ifE ?_ | refine L3.s_call ?_ | refine L3.s_lst ?_ | refine L3.s_tup ?_ | refine L3.s_tB ?_
    | refine L3.s_addI ?_ | refine L3.s_inS ?_ | refine L3.s_ninS ?_ | refine L3.s_slice ?_ | refine L3.s_part ?_ | refine L3.s_partI ?_ | refine L3.s_nopart ?_ | refine L3.s_cI ?_ | refine L3.s_cB ?_ | refine L3.s_chain ?_ | refine L3.s_bm ?_ | refine L3.s_lcS ?_ | refine L3.s_lcR ?_ | refine L3.s_strE ?_
    | refine L2.iteT ?_ | refine L2.iteF ?_ | refine L3.iteNF ?_ | refine L3.iteNT ?_
    | refine L3.s_eqI ?_ | refine L3.s_neI ?_ | refine L3.s_eqS ?_ | refine L3.s_neS ?_
    | refine L3.s_pair ?_ | refine L3.s_pair2 ?_ | refine L3.s_fld ?_ | refine L3.s_make ?_ | refine L3.s_m1 ?_ | refine L3.s_isstr ?_
    | refine L3.s_xfV ?_ | refine L3.s_lstN ?_ | refine L3.s_callF ?_ | refine L3.s_lcL ?_ | refine L3.s_par3 ?_ | refine L3.s_trip ?_ | refine L3.s_asgT' ?_ | refine L3.s_gC ?_ | refine L3.s_gN ?_ | refine L3.s_fldG ?_ | refine L3.s_raise1 ?_
    | refine L3.s_isN ?_ | refine L3.s_isB ?_ | refine L3.s_nisN ?_ | refine L3.s_nisB ?_
  | ((with_reducible refine' L3.s_var ?e ?_); (case e => rfl))
  | ((with_reducible refine' L3.s_aug ?e ?_); (case e => rfl))
  | ((with_reducible refine' L3.s_pow ?c ?_); (case c => exact ⟨by decide, by decide, by decide⟩)))
local macro_rules | `(tactic| tm_at "s") => `(tactic| repeat tm_at "s1")
namespace K03
open PySem PySem.Spec PyProof.Rows L2 L3 LamX
abbrev s__law_made : Stmt := topS 44
abbrev names__law_made : List Str := ["_law_first", "_law_second", "_law_third"]
theorem sc__law_made : FnScope ["_law_first", "_law_second", "_law_third"] ["_law_first", "_law_second", "_law_third"] (defScope s__law_made) := ⟨rfl, rfl, rfl, by decide +kernel, rfl, by decide +kernel, by decide +kernel⟩
section
variable {P : Program} {w : World} {K : PySem.W.Frag} {mg : Str → Option Value} {base : Heap} {cs : List Addr} {CP CD fb : Addr}
def rowT (v1 v2 v3 : V) : List RowD := [⟨0, flF ["chunks"] [v1], ["chunks"], [v1], .bl true⟩,
  ⟨1, flF ["rests"] [v1], ["rests"], [v1], .bl false⟩,
  ⟨2, flF ["total", "chunks"] [v1, v2], ["total", "chunks"], [v1, v2], .bl true⟩,
  ⟨3, flF ["limit", "chunks", "below"] [v1, v2, v3], ["limit", "chunks", "below"], [v1, v2, v3], .bl true⟩,
  ⟨3, flF ["limit", "chunks", "below"] [v3, v2, v1], ["limit", "below"], [v3, v1], .bl true⟩,
  ⟨19, flF ["late", "at", "world"] [v1, v2, v3], ["late", "at", "world"], [v1, v2, v3], .bl true⟩,
  ⟨15, flF ["late", "rest"] [v2, v1], ["late", "rest"], [v2, v1], .bl true⟩,
  ⟨16, flF ["residue", "begin"] [v1, v2], ["residue", "begin"], [v1, v2], .bl false⟩,
  ⟨17, flF ["table"] [v1], ["table"], [v1], .bl true⟩,
  ⟨18, flF ["rest", "late"] [v1, v2], ["rest", "late"], [v1, v2], .bl false⟩,
  ⟨6, flF ["begins"] [v1], ["begins"], [v1], .bl true⟩,
  ⟨8, flF ["begins"] [v1], ["begins"], [v1], .bl true⟩,
  ⟨10, flF ["first", "last"] [v1, v2], ["first", "last"], [v1, v2], .bl true⟩,
  ⟨12, flF ["never", "steady"] [v2, v1], ["never", "steady"], [v2, v1], .bl true⟩,
  ⟨7, flF ["rest"] [v1], ["rest"], [v1], .bl false⟩,
  ⟨9, flF ["rest"] [v1], ["rest"], [v1], .bl false⟩,
  ⟨11, flF ["rest"] [v1], ["rest"], [v1], .bl false⟩,
  ⟨13, flF ["total", "counts"] [v1, v2], ["total", "counts"], [v1, v2], .bl false⟩,
  ⟨14, flF ["upto"] [v1], ["upto"], [v1], .bl false⟩,
  ⟨4, flF ["late", "rest", "spot"] [v1, v2, .int 3], ["late", "rest", "spot"], [v1, v2, .int 3], .bl true⟩,
  ⟨5, flF ["spot", "rise"] [v1, v2], ["spot", "rise"], [v1, v2], .bl false⟩,
  ⟨25, flF ["names", "late", "last"] [v1, v2, .int 3], ["names", "late", "last"], [v1, v2, .int 3], .bl true⟩,
  ⟨21, flF ["world"] [v1], ["world"], [v1], .bl true⟩,
  ⟨22, flF ["at", "why"] [v1, v2], ["at", "why"], [v1, v2], .bl false⟩,
  ⟨23, flF ["workers"] [v1], ["workers"], [v1], .bl false⟩,
  ⟨24, flF ["least", "most"] [v1, v2], ["least", "most"], [v1, v2], .bl true⟩,
  ⟨20, flF ["worker", "at", "begun", "ended"] [v1, v2, .int 3, .int 9], ["worker", "at", "begun"], [v1, v2, .int 3], .bl true⟩,
  ⟨20, flF ["worker", "at", "begun", "ended"] [.int 1, .int 3, v2, v1], ["ended", "begun"], [v1, v2], .int 1⟩,
  ⟨26, flF ["loop", "worker", "many", "begun", "ended"] [v1, v2, .int 3, .int 8, .int 9], ["loop", "worker", "many"], [v1, v2, .int 3], .int 1⟩,
  ⟨26, flF ["loop", "worker", "many", "begun", "ended"] [.int 1, .int 2, .int 3, v2, v1], ["begun", "ended"], [v2, v1], .bl true⟩]
abbrev Lm (P : Program) (w : World) (K : PySem.W.Frag) (mg : Str → Option Value) (base : Heap) : Hp → Addr → Sp → Prop := LamAt P w K mg base 1
theorem hLm : ∀ H H' f sp, Lm P w K mg base H f sp → ExtN H H' → Lm P w K mg base H' f sp := fun _ _ _ _ h e => LamAt.exN h e
abbrev lamQ1 : Str := (("_law_made" : Str) ++ ".<locals>.") ++ "<lambda>"
def spMade (P : Program) (w : World) (K : PySem.W.Frag) (mg : Str → Option Value) (base : Heap) (cs : List Addr) (Tt : List (Addr × Str)) : Sp := fun vs H Q _ => ∃ v1 v2 v3, vs = [v1, v2, v3] ∧ Tabs Tt H ∧ ∀ l H' xs, ExtN H H' → Tabs Tt H' → H' l = some (.lst xs) → Paired (RowAt (Lm P w K mg base) K cs H') xs (rowT v1 v2 v3) → Q (.ref l) H'
theorem ok_made {f c Pt : Addr} {fd : FuncData} (F : FunC K "_law_made" "_law_made" s__law_made c f fd) (TB : TabB base mg c Pt) {Tt : List (Addr × Str)} (hmT : (Pt, lamQ1) ∈ Tt) (huT : ∀ p ∈ Tt, p.1 = Pt → p.2 = lamQ1) (T : Txt K mg cs CP CD fb) (m_Fewest_1 : McO P w K mg base (L2.CX P w) 1 "Fewest" (cs.getD 0 0) ["self", "chunks"] (spInit (cs.getD 0 0) ["chunks"]) []) (m_NoList_k : McN P w K mg base (L2.CX P w) 1 "NoList" (cs.getD 1 0) 0 ["self", "rests"] (spInit (cs.getD 1 0) ["rests"]) ["rests"] (permG [0])) (m_Greatest_2 : McO P w K mg base (L2.CX P w) 1 "Greatest" (cs.getD 2 0) ["self", "total", "chunks"] (spInit (cs.getD 2 0) ["total", "chunks"]) []) (m_Least_3 : McO P w K mg base (L2.CX P w) 1 "Least" (cs.getD 3 0) ["self", "limit", "chunks", "below"] (spInit (cs.getD 3 0) ["limit", "chunks", "below"]) []) (m_Least_k : McN P w K mg base (L2.CX P w) 1 "Least" (cs.getD 3 0) 0 ["self", "limit", "chunks", "below"] (spInit (cs.getD 3 0) ["limit", "chunks", "below"]) ["below", "chunks", "limit"] (permG [2, 1, 0])) (m_Latest_3 : McO P w K mg base (L2.CX P w) 1 "Latest" (cs.getD 19 0) ["self", "late", "at", "world"] (spInit (cs.getD 19 0) ["late", "at", "world"]) []) (m_Bound_k : McN P w K mg base (L2.CX P w) 1 "Bound" (cs.getD 15 0) 0 ["self", "late", "rest"] (spInit (cs.getD 15 0) ["late", "rest"]) ["rest", "late"] (permG [1, 0])) (m_Endless_2 : McO P w K mg base (L2.CX P w) 1 "Endless" (cs.getD 16 0) ["self", "residue", "begin"] (spInit (cs.getD 16 0) ["residue", "begin"]) []) (m_Within_k : McN P w K mg base (L2.CX P w) 1 "Within" (cs.getD 17 0) 0 ["self", "table"] (spInit (cs.getD 17 0) ["table"]) ["table"] (permG [0])) (m_Beyond_2 : McO P w K mg base (L2.CX P w) 1 "Beyond" (cs.getD 18 0) ["self", "rest", "late"] (spInit (cs.getD 18 0) ["rest", "late"]) []) (m_NeverLess_k : McN P w K mg base (L2.CX P w) 1 "NeverLess" (cs.getD 6 0) 0 ["self", "begins"] (spInit (cs.getD 6 0) ["begins"]) ["begins"] (permG [0])) (m_Steady_1 : McO P w K mg base (L2.CX P w) 1 "Steady" (cs.getD 8 0) ["self", "begins"] (spInit (cs.getD 8 0) ["begins"]) []) (m_Same_2 : McO P w K mg base (L2.CX P w) 1 "Same" (cs.getD 10 0) ["self", "first", "last"] (spInit (cs.getD 10 0) ["first", "last"]) []) (m_Surely_k : McN P w K mg base (L2.CX P w) 1 "Surely" (cs.getD 12 0) 0 ["self", "never", "steady"] (spInit (cs.getD 12 0) ["never", "steady"]) ["steady", "never"] (permG [1, 0])) (m_Less_k : McN P w K mg base (L2.CX P w) 1 "Less" (cs.getD 7 0) 0 ["self", "rest"] (spInit (cs.getD 7 0) ["rest"]) ["rest"] (permG [0])) (m_Jump_1 : McO P w K mg base (L2.CX P w) 1 "Jump" (cs.getD 9 0) ["self", "rest"] (spInit (cs.getD 9 0) ["rest"]) []) (m_Other_1 : McO P w K mg base (L2.CX P w) 1 "Other" (cs.getD 11 0) ["self", "rest"] (spInit (cs.getD 11 0) ["rest"]) []) (m_Counter_2 : McO P w K mg base (L2.CX P w) 1 "Counter" (cs.getD 13 0) ["self", "total", "counts"] (spInit (cs.getD 13 0) ["total", "counts"]) []) (m_Undecided_k : McN P w K mg base (L2.CX P w) 1 "Undecided" (cs.getD 14 0) 0 ["self", "upto"] (spInit (cs.getD 14 0) ["upto"]) ["upto"] (permG [0])) (m_BatchBound_3 : McO P w K mg base (L2.CX P w) 1 "BatchBound" (cs.getD 4 0) ["self", "late", "rest", "spot"] (spInit (cs.getD 4 0) ["late", "rest", "spot"]) []) (m_BatchEndless_k : McN P w K mg base (L2.CX P w) 1 "BatchEndless" (cs.getD 5 0) 0 ["self", "spot", "rise"] (spInit (cs.getD 5 0) ["spot", "rise"]) ["spot", "rise"] (permG [0, 1])) (m_BestOrder_3 : McO P w K mg base (L2.CX P w) 1 "BestOrder" (cs.getD 25 0) ["self", "names", "late", "last"] (spInit (cs.getD 25 0) ["names", "late", "last"]) []) (m_Fits_k : McN P w K mg base (L2.CX P w) 1 "Fits" (cs.getD 21 0) 0 ["self", "world"] (spInit (cs.getD 21 0) ["world"]) ["world"] (permG [0])) (m_Misfit_2 : McO P w K mg base (L2.CX P w) 1 "Misfit" (cs.getD 22 0) ["self", "at", "why"] (spInit (cs.getD 22 0) ["at", "why"]) []) (m_Ring_k : McN P w K mg base (L2.CX P w) 1 "Ring" (cs.getD 23 0) 0 ["self", "workers"] (spInit (cs.getD 23 0) ["workers"]) ["workers"] (permG [0])) (m_Came_2 : McO P w K mg base (L2.CX P w) 1 "Came" (cs.getD 24 0) ["self", "least", "most"] (spInit (cs.getD 24 0) ["least", "most"]) []) (m_Taking_4 : McO P w K mg base (L2.CX P w) 1 "Taking" (cs.getD 20 0) ["self", "worker", "at", "begun", "ended"] (spInit (cs.getD 20 0) ["worker", "at", "begun", "ended"]) []) (m_Taking_k : McN P w K mg base (L2.CX P w) 1 "Taking" (cs.getD 20 0) 0 ["self", "worker", "at", "begun", "ended"] (spInit (cs.getD 20 0) ["worker", "at", "begun", "ended"]) ["ended", "begun", "at", "worker"] (permG [3, 2, 1, 0])) (m_PoolTaking_5 : McO P w K mg base (L2.CX P w) 1 "PoolTaking" (cs.getD 26 0) ["self", "loop", "worker", "many", "begun", "ended"] (spInit (cs.getD 26 0) ["loop", "worker", "many", "begun", "ended"]) []) (m_PoolTaking_k : McN P w K mg base (L2.CX P w) 1 "PoolTaking" (cs.getD 26 0) 3 ["self", "loop", "worker", "many", "begun", "ended"] (spInit (cs.getD 26 0) ["loop", "worker", "many", "begun", "ended"]) ["ended", "begun"] (permG [0, 1, 2, 4, 3])) :
    FnG P w K mg base CX0 4 f fd ["_law_first", "_law_second", "_law_third"] (spMade P w K mg base cs Tt) := by
  refine funGC F sc__law_made (fun vs H Q E h => ?_) (fun A fr s H vs Q E hr hg h => ?_)
  · obtain ⟨v1, v2, v3, rfl, _⟩ := h; rfl
  · obtain ⟨v1, v2, v3, rfl, ht, k⟩ := h
    refine ⟨_, (pss_one (ps_ret (pe_lstN (pa_cons (pe_tup (pa_cons (pe_mko m_Fewest_1 hr passF (pa_cons (pv 0) pa_nil)) (pa_cons (pe_lamF TB rfl hmT huT rfl (by decide +kernel)) (pa_cons (pe_lstN (pa_cons (pv 0) pa_nil)) (pa_cons pe_bl pa_nil))))) (pa_cons (pe_tup (pa_cons (pe_mkN0 m_NoList_k hr passF (pk_cons (pv 0) pk_nil)) (pa_cons (pe_lamF TB rfl hmT huT rfl (by decide +kernel)) (pa_cons (pe_lstN (pa_cons (pv 0) pa_nil)) (pa_cons pe_bl pa_nil))))) (pa_cons (pe_tup (pa_cons (pe_mko m_Greatest_2 hr passF (pa_cons (pv 0) (pa_cons (pv 1) pa_nil))) (pa_cons (pe_lamF TB rfl hmT huT rfl (by decide +kernel)) (pa_cons (pe_lstN (pa_cons (pv 0) (pa_cons (pv 1) pa_nil))) (pa_cons pe_bl pa_nil))))) (pa_cons (pe_tup (pa_cons (pe_mko m_Least_3 hr passF (pa_cons (pv 0) (pa_cons (pv 1) (pa_cons (pv 2) pa_nil)))) (pa_cons (pe_lamF TB rfl hmT huT rfl (by decide +kernel)) (pa_cons (pe_lstN (pa_cons (pv 0) (pa_cons (pv 1) (pa_cons (pv 2) pa_nil)))) (pa_cons pe_bl pa_nil))))) (pa_cons (pe_tup (pa_cons (pe_mkN0 m_Least_k hr passF (pk_cons (pv 0) (pk_cons (pv 1) (pk_cons (pv 2) pk_nil)))) (pa_cons (pe_lamF TB rfl hmT huT rfl (by decide +kernel)) (pa_cons (pe_lstN (pa_cons (pv 2) (pa_cons (pv 0) pa_nil))) (pa_cons pe_bl pa_nil))))) (pa_cons (pe_tup (pa_cons (pe_mko m_Latest_3 hr passF (pa_cons (pv 0) (pa_cons (pv 1) (pa_cons (pv 2) pa_nil)))) (pa_cons (pe_lamF TB rfl hmT huT rfl (by decide +kernel)) (pa_cons (pe_lstN (pa_cons (pv 0) (pa_cons (pv 1) (pa_cons (pv 2) pa_nil)))) (pa_cons pe_bl pa_nil))))) (pa_cons (pe_tup (pa_cons (pe_mkN0 m_Bound_k hr passF (pk_cons (pv 0) (pk_cons (pv 1) pk_nil))) (pa_cons (pe_lamF TB rfl hmT huT rfl (by decide +kernel)) (pa_cons (pe_lstN (pa_cons (pv 1) (pa_cons (pv 0) pa_nil))) (pa_cons pe_bl pa_nil))))) (pa_cons (pe_tup (pa_cons (pe_mko m_Endless_2 hr passF (pa_cons (pv 0) (pa_cons (pv 1) pa_nil))) (pa_cons (pe_lamF TB rfl hmT huT rfl (by decide +kernel)) (pa_cons (pe_lstN (pa_cons (pv 0) (pa_cons (pv 1) pa_nil))) (pa_cons pe_bl pa_nil))))) (pa_cons (pe_tup (pa_cons (pe_mkN0 m_Within_k hr passF (pk_cons (pv 0) pk_nil)) (pa_cons (pe_lamF TB rfl hmT huT rfl (by decide +kernel)) (pa_cons (pe_lstN (pa_cons (pv 0) pa_nil)) (pa_cons pe_bl pa_nil))))) (pa_cons (pe_tup (pa_cons (pe_mko m_Beyond_2 hr passF (pa_cons (pv 0) (pa_cons (pv 1) pa_nil))) (pa_cons (pe_lamF TB rfl hmT huT rfl (by decide +kernel)) (pa_cons (pe_lstN (pa_cons (pv 0) (pa_cons (pv 1) pa_nil))) (pa_cons pe_bl pa_nil))))) (pa_cons (pe_tup (pa_cons (pe_mkN0 m_NeverLess_k hr passF (pk_cons (pv 0) pk_nil)) (pa_cons (pe_lamF TB rfl hmT huT rfl (by decide +kernel)) (pa_cons (pe_lstN (pa_cons (pv 0) pa_nil)) (pa_cons pe_bl pa_nil))))) (pa_cons (pe_tup (pa_cons (pe_mko m_Steady_1 hr passF (pa_cons (pv 0) pa_nil)) (pa_cons (pe_lamF TB rfl hmT huT rfl (by decide +kernel)) (pa_cons (pe_lstN (pa_cons (pv 0) pa_nil)) (pa_cons pe_bl pa_nil))))) (pa_cons (pe_tup (pa_cons (pe_mko m_Same_2 hr passF (pa_cons (pv 0) (pa_cons (pv 1) pa_nil))) (pa_cons (pe_lamF TB rfl hmT huT rfl (by decide +kernel)) (pa_cons (pe_lstN (pa_cons (pv 0) (pa_cons (pv 1) pa_nil))) (pa_cons pe_bl pa_nil))))) (pa_cons (pe_tup (pa_cons (pe_mkN0 m_Surely_k hr passF (pk_cons (pv 0) (pk_cons (pv 1) pk_nil))) (pa_cons (pe_lamF TB rfl hmT huT rfl (by decide +kernel)) (pa_cons (pe_lstN (pa_cons (pv 1) (pa_cons (pv 0) pa_nil))) (pa_cons pe_bl pa_nil))))) (pa_cons (pe_tup (pa_cons (pe_mkN0 m_Less_k hr passF (pk_cons (pv 0) pk_nil)) (pa_cons (pe_lamF TB rfl hmT huT rfl (by decide +kernel)) (pa_cons (pe_lstN (pa_cons (pv 0) pa_nil)) (pa_cons pe_bl pa_nil))))) (pa_cons (pe_tup (pa_cons (pe_mko m_Jump_1 hr passF (pa_cons (pv 0) pa_nil)) (pa_cons (pe_lamF TB rfl hmT huT rfl (by decide +kernel)) (pa_cons (pe_lstN (pa_cons (pv 0) pa_nil)) (pa_cons pe_bl pa_nil))))) (pa_cons (pe_tup (pa_cons (pe_mko m_Other_1 hr passF (pa_cons (pv 0) pa_nil)) (pa_cons (pe_lamF TB rfl hmT huT rfl (by decide +kernel)) (pa_cons (pe_lstN (pa_cons (pv 0) pa_nil)) (pa_cons pe_bl pa_nil))))) (pa_cons (pe_tup (pa_cons (pe_mko m_Counter_2 hr passF (pa_cons (pv 0) (pa_cons (pv 1) pa_nil))) (pa_cons (pe_lamF TB rfl hmT huT rfl (by decide +kernel)) (pa_cons (pe_lstN (pa_cons (pv 0) (pa_cons (pv 1) pa_nil))) (pa_cons pe_bl pa_nil))))) (pa_cons (pe_tup (pa_cons (pe_mkN0 m_Undecided_k hr passF (pk_cons (pv 0) pk_nil)) (pa_cons (pe_lamF TB rfl hmT huT rfl (by decide +kernel)) (pa_cons (pe_lstN (pa_cons (pv 0) pa_nil)) (pa_cons pe_bl pa_nil))))) (pa_cons (pe_tup (pa_cons (pe_mko m_BatchBound_3 hr passF (pa_cons (pv 0) (pa_cons (pv 1) (pa_cons pe_int pa_nil)))) (pa_cons (pe_lamF TB rfl hmT huT rfl (by decide +kernel)) (pa_cons (pe_lstN (pa_cons (pv 0) (pa_cons (pv 1) (pa_cons pe_int pa_nil)))) (pa_cons pe_bl pa_nil))))) (pa_cons (pe_tup (pa_cons (pe_mkN0 m_BatchEndless_k hr passF (pk_cons (pv 0) (pk_cons (pv 1) pk_nil))) (pa_cons (pe_lamF TB rfl hmT huT rfl (by decide +kernel)) (pa_cons (pe_lstN (pa_cons (pv 0) (pa_cons (pv 1) pa_nil))) (pa_cons pe_bl pa_nil))))) (pa_cons (pe_tup (pa_cons (pe_mko m_BestOrder_3 hr passF (pa_cons (pv 0) (pa_cons (pv 1) (pa_cons pe_int pa_nil)))) (pa_cons (pe_lamF TB rfl hmT huT rfl (by decide +kernel)) (pa_cons (pe_lstN (pa_cons (pv 0) (pa_cons (pv 1) (pa_cons pe_int pa_nil)))) (pa_cons pe_bl pa_nil))))) (pa_cons (pe_tup (pa_cons (pe_mkN0 m_Fits_k hr passF (pk_cons (pv 0) pk_nil)) (pa_cons (pe_lamF TB rfl hmT huT rfl (by decide +kernel)) (pa_cons (pe_lstN (pa_cons (pv 0) pa_nil)) (pa_cons pe_bl pa_nil))))) (pa_cons (pe_tup (pa_cons (pe_mko m_Misfit_2 hr passF (pa_cons (pv 0) (pa_cons (pv 1) pa_nil))) (pa_cons (pe_lamF TB rfl hmT huT rfl (by decide +kernel)) (pa_cons (pe_lstN (pa_cons (pv 0) (pa_cons (pv 1) pa_nil))) (pa_cons pe_bl pa_nil))))) (pa_cons (pe_tup (pa_cons (pe_mkN0 m_Ring_k hr passF (pk_cons (pv 0) pk_nil)) (pa_cons (pe_lamF TB rfl hmT huT rfl (by decide +kernel)) (pa_cons (pe_lstN (pa_cons (pv 0) pa_nil)) (pa_cons pe_bl pa_nil))))) (pa_cons (pe_tup (pa_cons (pe_mko m_Came_2 hr passF (pa_cons (pv 0) (pa_cons (pv 1) pa_nil))) (pa_cons (pe_lamF TB rfl hmT huT rfl (by decide +kernel)) (pa_cons (pe_lstN (pa_cons (pv 0) (pa_cons (pv 1) pa_nil))) (pa_cons pe_bl pa_nil))))) (pa_cons (pe_tup (pa_cons (pe_mko m_Taking_4 hr passF (pa_cons (pv 0) (pa_cons (pv 1) (pa_cons pe_int (pa_cons pe_int pa_nil))))) (pa_cons (pe_lamF TB rfl hmT huT rfl (by decide +kernel)) (pa_cons (pe_lstN (pa_cons (pv 0) (pa_cons (pv 1) (pa_cons pe_int pa_nil)))) (pa_cons pe_bl pa_nil))))) (pa_cons (pe_tup (pa_cons (pe_mkN0 m_Taking_k hr passF (pk_cons (pv 0) (pk_cons (pv 1) (pk_cons pe_int (pk_cons pe_int pk_nil))))) (pa_cons (pe_lamF TB rfl hmT huT rfl (by decide +kernel)) (pa_cons (pe_lstN (pa_cons (pv 0) (pa_cons (pv 1) pa_nil))) (pa_cons pe_int pa_nil))))) (pa_cons (pe_tup (pa_cons (pe_mko m_PoolTaking_5 hr passF (pa_cons (pv 0) (pa_cons (pv 1) (pa_cons pe_int (pa_cons pe_int (pa_cons pe_int pa_nil)))))) (pa_cons (pe_lamF TB rfl hmT huT rfl (by decide +kernel)) (pa_cons (pe_lstN (pa_cons (pv 0) (pa_cons (pv 1) (pa_cons pe_int pa_nil)))) (pa_cons pe_int pa_nil))))) (pa_cons (pe_tup (pa_cons (pe_mkN m_PoolTaking_k hr passF (pa_cons pe_int (pa_cons pe_int (pa_cons pe_int pa_nil))) (pk_cons (pv 0) (pk_cons (pv 1) pk_nil))) (pa_cons (pe_lamF TB rfl hmT huT rfl (by decide +kernel)) (pa_cons (pe_lstN (pa_cons (pv 1) (pa_cons (pv 0) pa_nil))) (pa_cons pe_bl pa_nil))))) pa_nil))))))))))))))))))))))))))))))))), ?_⟩
    refine s_ret ?_
    refine s_lstN ?_
    refine s_rowP (Lm := Lm P w K mg base) (cs := cs) hLm ⟨0, flF ["chunks"] [v1], ["chunks"], [v1], .bl true⟩ ht (fun H R h => mkP [v1] (fun R' h => ⟨v1, rfl, h⟩) rfl h) (fun H R t h => s_lamF t fun f c' H1 hf e1 t1 l1 k1 => h f H1 e1 t1 ⟨"_law_told", _, _, _, _, c', l1, k1, ⟨by intros; rfl, ⟨rfl, rfl, rfl, by decide, rfl, by decide +kernel, by decide +kernel⟩, fun A outer s H E f c' v Q hr h => ⟨_, pe_lstN (pa_cons (KX.fld (K := K) rfl (pe_var (i := 0) rfl (Or.inl rfl)) rfl) pa_nil), s_tp1 h⟩⟩⟩)
      (fun H R h => ⟨v1, rfl, ⟨(show 1 ≤ sizeLine by decide), fun p hp np => h p _ (ex_new hp) upd_same np⟩⟩) (fun H R h => h) fun a1 H1 e1 t1 r1 => ?_
    refine s_rowP (Lm := Lm P w K mg base) (cs := cs) hLm ⟨1, flF ["rests"] [v1], ["rests"], [v1], .bl false⟩ t1 (fun H R h => mkPK [v1] (fun R' hR => ⟨v1, rfl, hR [] [v1] rfl rfl fun a => rfl⟩) rfl h) (fun H R t h => s_lamF t fun f c' H1 hf e1 t1 l1 k1 => h f H1 e1 t1 ⟨"_law_told", _, _, _, _, c', l1, k1, ⟨by intros; rfl, ⟨rfl, rfl, rfl, by decide, rfl, by decide +kernel, by decide +kernel⟩, fun A outer s H E f c' v Q hr h => ⟨_, pe_lstN (pa_cons (KX.fld (K := K) rfl (pe_var (i := 0) rfl (Or.inl rfl)) rfl) pa_nil), s_tp1 h⟩⟩⟩)
      (fun H R h => ⟨v1, rfl, ⟨(show 1 ≤ sizeLine by decide), fun p hp np => h p _ (ex_new hp) upd_same np⟩⟩) (fun H R h => h) fun a2 H2 e2 t2 r2 => ?_
    refine s_rowP (Lm := Lm P w K mg base) (cs := cs) hLm ⟨2, flF ["total", "chunks"] [v1, v2], ["total", "chunks"], [v1, v2], .bl true⟩ t2 (fun H R h => mkP [v1, v2] (fun R' h => ⟨v1, rfl, ⟨v2, rfl, h⟩⟩) rfl h) (fun H R t h => s_lamF t fun f c' H1 hf e1 t1 l1 k1 => h f H1 e1 t1 ⟨"_law_told", _, _, _, _, c', l1, k1, ⟨by intros; rfl, ⟨rfl, rfl, rfl, by decide, rfl, by decide +kernel, by decide +kernel⟩, fun A outer s H E f c' v Q hr h => ⟨_, pe_lstN (pa_cons (KX.fld (K := K) rfl (pe_var (i := 0) rfl (Or.inl rfl)) rfl) (pa_cons (KX.fld (K := K) rfl (pe_var (i := 0) rfl (Or.inl rfl)) rfl) pa_nil)), s_tp2 h⟩⟩⟩)
      (fun H R h => ⟨v1, rfl, ⟨v2, rfl, ⟨(show 2 ≤ sizeLine by decide), fun p hp np => h p _ (ex_new hp) upd_same np⟩⟩⟩) (fun H R h => h) fun a3 H3 e3 t3 r3 => ?_
    refine s_rowP (Lm := Lm P w K mg base) (cs := cs) hLm ⟨3, flF ["limit", "chunks", "below"] [v1, v2, v3], ["limit", "chunks", "below"], [v1, v2, v3], .bl true⟩ t3 (fun H R h => mkP [v1, v2, v3] (fun R' h => ⟨v1, rfl, ⟨v2, rfl, ⟨v3, rfl, h⟩⟩⟩) rfl h) (fun H R t h => s_lamF t fun f c' H1 hf e1 t1 l1 k1 => h f H1 e1 t1 ⟨"_law_told", _, _, _, _, c', l1, k1, ⟨by intros; rfl, ⟨rfl, rfl, rfl, by decide, rfl, by decide +kernel, by decide +kernel⟩, fun A outer s H E f c' v Q hr h => ⟨_, pe_lstN (pa_cons (KX.fld (K := K) rfl (pe_var (i := 0) rfl (Or.inl rfl)) rfl) (pa_cons (KX.fld (K := K) rfl (pe_var (i := 0) rfl (Or.inl rfl)) rfl) (pa_cons (KX.fld (K := K) rfl (pe_var (i := 0) rfl (Or.inl rfl)) rfl) pa_nil))), s_tp3 h⟩⟩⟩)
      (fun H R h => ⟨v1, rfl, ⟨v2, rfl, ⟨v3, rfl, ⟨(show 3 ≤ sizeLine by decide), fun p hp np => h p _ (ex_new hp) upd_same np⟩⟩⟩⟩) (fun H R h => h) fun a4 H4 e4 t4 r4 => ?_
    refine s_rowP (Lm := Lm P w K mg base) (cs := cs) hLm ⟨3, flF ["limit", "chunks", "below"] [v3, v2, v1], ["limit", "below"], [v3, v1], .bl true⟩ t4 (fun H R h => mkPK [v3, v2, v1] (fun R' hR => ⟨v1, rfl, ⟨v2, rfl, ⟨v3, rfl, hR [] [v1, v2, v3] rfl rfl fun a => rfl⟩⟩⟩) rfl h) (fun H R t h => s_lamF t fun f c' H1 hf e1 t1 l1 k1 => h f H1 e1 t1 ⟨"_law_told", _, _, _, _, c', l1, k1, ⟨by intros; rfl, ⟨rfl, rfl, rfl, by decide, rfl, by decide +kernel, by decide +kernel⟩, fun A outer s H E f c' v Q hr h => ⟨_, pe_lstN (pa_cons (KX.fld (K := K) rfl (pe_var (i := 0) rfl (Or.inl rfl)) rfl) (pa_cons (KX.fld (K := K) rfl (pe_var (i := 0) rfl (Or.inl rfl)) rfl) pa_nil)), s_tp2 h⟩⟩⟩)
      (fun H R h => ⟨v3, rfl, ⟨v1, rfl, ⟨(show 2 ≤ sizeLine by decide), fun p hp np => h p _ (ex_new hp) upd_same np⟩⟩⟩) (fun H R h => h) fun a5 H5 e5 t5 r5 => ?_
    refine s_rowP (Lm := Lm P w K mg base) (cs := cs) hLm ⟨19, flF ["late", "at", "world"] [v1, v2, v3], ["late", "at", "world"], [v1, v2, v3], .bl true⟩ t5 (fun H R h => mkP [v1, v2, v3] (fun R' h => ⟨v1, rfl, ⟨v2, rfl, ⟨v3, rfl, h⟩⟩⟩) rfl h) (fun H R t h => s_lamF t fun f c' H1 hf e1 t1 l1 k1 => h f H1 e1 t1 ⟨"_law_told", _, _, _, _, c', l1, k1, ⟨by intros; rfl, ⟨rfl, rfl, rfl, by decide, rfl, by decide +kernel, by decide +kernel⟩, fun A outer s H E f c' v Q hr h => ⟨_, pe_lstN (pa_cons (KX.fld (K := K) rfl (pe_var (i := 0) rfl (Or.inl rfl)) rfl) (pa_cons (KX.fld (K := K) rfl (pe_var (i := 0) rfl (Or.inl rfl)) rfl) (pa_cons (KX.fld (K := K) rfl (pe_var (i := 0) rfl (Or.inl rfl)) rfl) pa_nil))), s_tp3 h⟩⟩⟩)
      (fun H R h => ⟨v1, rfl, ⟨v2, rfl, ⟨v3, rfl, ⟨(show 3 ≤ sizeLine by decide), fun p hp np => h p _ (ex_new hp) upd_same np⟩⟩⟩⟩) (fun H R h => h) fun a6 H6 e6 t6 r6 => ?_
    refine s_rowP (Lm := Lm P w K mg base) (cs := cs) hLm ⟨15, flF ["late", "rest"] [v2, v1], ["late", "rest"], [v2, v1], .bl true⟩ t6 (fun H R h => mkPK [v2, v1] (fun R' hR => ⟨v1, rfl, ⟨v2, rfl, hR [] [v1, v2] rfl rfl fun a => rfl⟩⟩) rfl h) (fun H R t h => s_lamF t fun f c' H1 hf e1 t1 l1 k1 => h f H1 e1 t1 ⟨"_law_told", _, _, _, _, c', l1, k1, ⟨by intros; rfl, ⟨rfl, rfl, rfl, by decide, rfl, by decide +kernel, by decide +kernel⟩, fun A outer s H E f c' v Q hr h => ⟨_, pe_lstN (pa_cons (KX.fld (K := K) rfl (pe_var (i := 0) rfl (Or.inl rfl)) rfl) (pa_cons (KX.fld (K := K) rfl (pe_var (i := 0) rfl (Or.inl rfl)) rfl) pa_nil)), s_tp2 h⟩⟩⟩)
      (fun H R h => ⟨v2, rfl, ⟨v1, rfl, ⟨(show 2 ≤ sizeLine by decide), fun p hp np => h p _ (ex_new hp) upd_same np⟩⟩⟩) (fun H R h => h) fun a7 H7 e7 t7 r7 => ?_
    refine s_rowP (Lm := Lm P w K mg base) (cs := cs) hLm ⟨16, flF ["residue", "begin"] [v1, v2], ["residue", "begin"], [v1, v2], .bl false⟩ t7 (fun H R h => mkP [v1, v2] (fun R' h => ⟨v1, rfl, ⟨v2, rfl, h⟩⟩) rfl h) (fun H R t h => s_lamF t fun f c' H1 hf e1 t1 l1 k1 => h f H1 e1 t1 ⟨"_law_told", _, _, _, _, c', l1, k1, ⟨by intros; rfl, ⟨rfl, rfl, rfl, by decide, rfl, by decide +kernel, by decide +kernel⟩, fun A outer s H E f c' v Q hr h => ⟨_, pe_lstN (pa_cons (KX.fld (K := K) rfl (pe_var (i := 0) rfl (Or.inl rfl)) rfl) (pa_cons (KX.fld (K := K) rfl (pe_var (i := 0) rfl (Or.inl rfl)) rfl) pa_nil)), s_tp2 h⟩⟩⟩)
      (fun H R h => ⟨v1, rfl, ⟨v2, rfl, ⟨(show 2 ≤ sizeLine by decide), fun p hp np => h p _ (ex_new hp) upd_same np⟩⟩⟩) (fun H R h => h) fun a8 H8 e8 t8 r8 => ?_
    refine s_rowP (Lm := Lm P w K mg base) (cs := cs) hLm ⟨17, flF ["table"] [v1], ["table"], [v1], .bl true⟩ t8 (fun H R h => mkPK [v1] (fun R' hR => ⟨v1, rfl, hR [] [v1] rfl rfl fun a => rfl⟩) rfl h) (fun H R t h => s_lamF t fun f c' H1 hf e1 t1 l1 k1 => h f H1 e1 t1 ⟨"_law_told", _, _, _, _, c', l1, k1, ⟨by intros; rfl, ⟨rfl, rfl, rfl, by decide, rfl, by decide +kernel, by decide +kernel⟩, fun A outer s H E f c' v Q hr h => ⟨_, pe_lstN (pa_cons (KX.fld (K := K) rfl (pe_var (i := 0) rfl (Or.inl rfl)) rfl) pa_nil), s_tp1 h⟩⟩⟩)
      (fun H R h => ⟨v1, rfl, ⟨(show 1 ≤ sizeLine by decide), fun p hp np => h p _ (ex_new hp) upd_same np⟩⟩) (fun H R h => h) fun a9 H9 e9 t9 r9 => ?_
    refine s_rowP (Lm := Lm P w K mg base) (cs := cs) hLm ⟨18, flF ["rest", "late"] [v1, v2], ["rest", "late"], [v1, v2], .bl false⟩ t9 (fun H R h => mkP [v1, v2] (fun R' h => ⟨v1, rfl, ⟨v2, rfl, h⟩⟩) rfl h) (fun H R t h => s_lamF t fun f c' H1 hf e1 t1 l1 k1 => h f H1 e1 t1 ⟨"_law_told", _, _, _, _, c', l1, k1, ⟨by intros; rfl, ⟨rfl, rfl, rfl, by decide, rfl, by decide +kernel, by decide +kernel⟩, fun A outer s H E f c' v Q hr h => ⟨_, pe_lstN (pa_cons (KX.fld (K := K) rfl (pe_var (i := 0) rfl (Or.inl rfl)) rfl) (pa_cons (KX.fld (K := K) rfl (pe_var (i := 0) rfl (Or.inl rfl)) rfl) pa_nil)), s_tp2 h⟩⟩⟩)
      (fun H R h => ⟨v1, rfl, ⟨v2, rfl, ⟨(show 2 ≤ sizeLine by decide), fun p hp np => h p _ (ex_new hp) upd_same np⟩⟩⟩) (fun H R h => h) fun a10 H10 e10 t10 r10 => ?_
    refine s_rowP (Lm := Lm P w K mg base) (cs := cs) hLm ⟨6, flF ["begins"] [v1], ["begins"], [v1], .bl true⟩ t10 (fun H R h => mkPK [v1] (fun R' hR => ⟨v1, rfl, hR [] [v1] rfl rfl fun a => rfl⟩) rfl h) (fun H R t h => s_lamF t fun f c' H1 hf e1 t1 l1 k1 => h f H1 e1 t1 ⟨"_law_told", _, _, _, _, c', l1, k1, ⟨by intros; rfl, ⟨rfl, rfl, rfl, by decide, rfl, by decide +kernel, by decide +kernel⟩, fun A outer s H E f c' v Q hr h => ⟨_, pe_lstN (pa_cons (KX.fld (K := K) rfl (pe_var (i := 0) rfl (Or.inl rfl)) rfl) pa_nil), s_tp1 h⟩⟩⟩)
      (fun H R h => ⟨v1, rfl, ⟨(show 1 ≤ sizeLine by decide), fun p hp np => h p _ (ex_new hp) upd_same np⟩⟩) (fun H R h => h) fun a11 H11 e11 t11 r11 => ?_
    refine s_rowP (Lm := Lm P w K mg base) (cs := cs) hLm ⟨8, flF ["begins"] [v1], ["begins"], [v1], .bl true⟩ t11 (fun H R h => mkP [v1] (fun R' h => ⟨v1, rfl, h⟩) rfl h) (fun H R t h => s_lamF t fun f c' H1 hf e1 t1 l1 k1 => h f H1 e1 t1 ⟨"_law_told", _, _, _, _, c', l1, k1, ⟨by intros; rfl, ⟨rfl, rfl, rfl, by decide, rfl, by decide +kernel, by decide +kernel⟩, fun A outer s H E f c' v Q hr h => ⟨_, pe_lstN (pa_cons (KX.fld (K := K) rfl (pe_var (i := 0) rfl (Or.inl rfl)) rfl) pa_nil), s_tp1 h⟩⟩⟩)
      (fun H R h => ⟨v1, rfl, ⟨(show 1 ≤ sizeLine by decide), fun p hp np => h p _ (ex_new hp) upd_same np⟩⟩) (fun H R h => h) fun a12 H12 e12 t12 r12 => ?_
    refine s_rowP (Lm := Lm P w K mg base) (cs := cs) hLm ⟨10, flF ["first", "last"] [v1, v2], ["first", "last"], [v1, v2], .bl true⟩ t12 (fun H R h => mkP [v1, v2] (fun R' h => ⟨v1, rfl, ⟨v2, rfl, h⟩⟩) rfl h) (fun H R t h => s_lamF t fun f c' H1 hf e1 t1 l1 k1 => h f H1 e1 t1 ⟨"_law_told", _, _, _, _, c', l1, k1, ⟨by intros; rfl, ⟨rfl, rfl, rfl, by decide, rfl, by decide +kernel, by decide +kernel⟩, fun A outer s H E f c' v Q hr h => ⟨_, pe_lstN (pa_cons (KX.fld (K := K) rfl (pe_var (i := 0) rfl (Or.inl rfl)) rfl) (pa_cons (KX.fld (K := K) rfl (pe_var (i := 0) rfl (Or.inl rfl)) rfl) pa_nil)), s_tp2 h⟩⟩⟩)
      (fun H R h => ⟨v1, rfl, ⟨v2, rfl, ⟨(show 2 ≤ sizeLine by decide), fun p hp np => h p _ (ex_new hp) upd_same np⟩⟩⟩) (fun H R h => h) fun a13 H13 e13 t13 r13 => ?_
    refine s_rowP (Lm := Lm P w K mg base) (cs := cs) hLm ⟨12, flF ["never", "steady"] [v2, v1], ["never", "steady"], [v2, v1], .bl true⟩ t13 (fun H R h => mkPK [v2, v1] (fun R' hR => ⟨v1, rfl, ⟨v2, rfl, hR [] [v1, v2] rfl rfl fun a => rfl⟩⟩) rfl h) (fun H R t h => s_lamF t fun f c' H1 hf e1 t1 l1 k1 => h f H1 e1 t1 ⟨"_law_told", _, _, _, _, c', l1, k1, ⟨by intros; rfl, ⟨rfl, rfl, rfl, by decide, rfl, by decide +kernel, by decide +kernel⟩, fun A outer s H E f c' v Q hr h => ⟨_, pe_lstN (pa_cons (KX.fld (K := K) rfl (pe_var (i := 0) rfl (Or.inl rfl)) rfl) (pa_cons (KX.fld (K := K) rfl (pe_var (i := 0) rfl (Or.inl rfl)) rfl) pa_nil)), s_tp2 h⟩⟩⟩)
      (fun H R h => ⟨v2, rfl, ⟨v1, rfl, ⟨(show 2 ≤ sizeLine by decide), fun p hp np => h p _ (ex_new hp) upd_same np⟩⟩⟩) (fun H R h => h) fun a14 H14 e14 t14 r14 => ?_
    refine s_rowP (Lm := Lm P w K mg base) (cs := cs) hLm ⟨7, flF ["rest"] [v1], ["rest"], [v1], .bl false⟩ t14 (fun H R h => mkPK [v1] (fun R' hR => ⟨v1, rfl, hR [] [v1] rfl rfl fun a => rfl⟩) rfl h) (fun H R t h => s_lamF t fun f c' H1 hf e1 t1 l1 k1 => h f H1 e1 t1 ⟨"_law_told", _, _, _, _, c', l1, k1, ⟨by intros; rfl, ⟨rfl, rfl, rfl, by decide, rfl, by decide +kernel, by decide +kernel⟩, fun A outer s H E f c' v Q hr h => ⟨_, pe_lstN (pa_cons (KX.fld (K := K) rfl (pe_var (i := 0) rfl (Or.inl rfl)) rfl) pa_nil), s_tp1 h⟩⟩⟩)
      (fun H R h => ⟨v1, rfl, ⟨(show 1 ≤ sizeLine by decide), fun p hp np => h p _ (ex_new hp) upd_same np⟩⟩) (fun H R h => h) fun a15 H15 e15 t15 r15 => ?_
    refine s_rowP (Lm := Lm P w K mg base) (cs := cs) hLm ⟨9, flF ["rest"] [v1], ["rest"], [v1], .bl false⟩ t15 (fun H R h => mkP [v1] (fun R' h => ⟨v1, rfl, h⟩) rfl h) (fun H R t h => s_lamF t fun f c' H1 hf e1 t1 l1 k1 => h f H1 e1 t1 ⟨"_law_told", _, _, _, _, c', l1, k1, ⟨by intros; rfl, ⟨rfl, rfl, rfl, by decide, rfl, by decide +kernel, by decide +kernel⟩, fun A outer s H E f c' v Q hr h => ⟨_, pe_lstN (pa_cons (KX.fld (K := K) rfl (pe_var (i := 0) rfl (Or.inl rfl)) rfl) pa_nil), s_tp1 h⟩⟩⟩)
      (fun H R h => ⟨v1, rfl, ⟨(show 1 ≤ sizeLine by decide), fun p hp np => h p _ (ex_new hp) upd_same np⟩⟩) (fun H R h => h) fun a16 H16 e16 t16 r16 => ?_
    refine s_rowP (Lm := Lm P w K mg base) (cs := cs) hLm ⟨11, flF ["rest"] [v1], ["rest"], [v1], .bl false⟩ t16 (fun H R h => mkP [v1] (fun R' h => ⟨v1, rfl, h⟩) rfl h) (fun H R t h => s_lamF t fun f c' H1 hf e1 t1 l1 k1 => h f H1 e1 t1 ⟨"_law_told", _, _, _, _, c', l1, k1, ⟨by intros; rfl, ⟨rfl, rfl, rfl, by decide, rfl, by decide +kernel, by decide +kernel⟩, fun A outer s H E f c' v Q hr h => ⟨_, pe_lstN (pa_cons (KX.fld (K := K) rfl (pe_var (i := 0) rfl (Or.inl rfl)) rfl) pa_nil), s_tp1 h⟩⟩⟩)
      (fun H R h => ⟨v1, rfl, ⟨(show 1 ≤ sizeLine by decide), fun p hp np => h p _ (ex_new hp) upd_same np⟩⟩) (fun H R h => h) fun a17 H17 e17 t17 r17 => ?_
    refine s_rowP (Lm := Lm P w K mg base) (cs := cs) hLm ⟨13, flF ["total", "counts"] [v1, v2], ["total", "counts"], [v1, v2], .bl false⟩ t17 (fun H R h => mkP [v1, v2] (fun R' h => ⟨v1, rfl, ⟨v2, rfl, h⟩⟩) rfl h) (fun H R t h => s_lamF t fun f c' H1 hf e1 t1 l1 k1 => h f H1 e1 t1 ⟨"_law_told", _, _, _, _, c', l1, k1, ⟨by intros; rfl, ⟨rfl, rfl, rfl, by decide, rfl, by decide +kernel, by decide +kernel⟩, fun A outer s H E f c' v Q hr h => ⟨_, pe_lstN (pa_cons (KX.fld (K := K) rfl (pe_var (i := 0) rfl (Or.inl rfl)) rfl) (pa_cons (KX.fld (K := K) rfl (pe_var (i := 0) rfl (Or.inl rfl)) rfl) pa_nil)), s_tp2 h⟩⟩⟩)
      (fun H R h => ⟨v1, rfl, ⟨v2, rfl, ⟨(show 2 ≤ sizeLine by decide), fun p hp np => h p _ (ex_new hp) upd_same np⟩⟩⟩) (fun H R h => h) fun a18 H18 e18 t18 r18 => ?_
    refine s_rowP (Lm := Lm P w K mg base) (cs := cs) hLm ⟨14, flF ["upto"] [v1], ["upto"], [v1], .bl false⟩ t18 (fun H R h => mkPK [v1] (fun R' hR => ⟨v1, rfl, hR [] [v1] rfl rfl fun a => rfl⟩) rfl h) (fun H R t h => s_lamF t fun f c' H1 hf e1 t1 l1 k1 => h f H1 e1 t1 ⟨"_law_told", _, _, _, _, c', l1, k1, ⟨by intros; rfl, ⟨rfl, rfl, rfl, by decide, rfl, by decide +kernel, by decide +kernel⟩, fun A outer s H E f c' v Q hr h => ⟨_, pe_lstN (pa_cons (KX.fld (K := K) rfl (pe_var (i := 0) rfl (Or.inl rfl)) rfl) pa_nil), s_tp1 h⟩⟩⟩)
      (fun H R h => ⟨v1, rfl, ⟨(show 1 ≤ sizeLine by decide), fun p hp np => h p _ (ex_new hp) upd_same np⟩⟩) (fun H R h => h) fun a19 H19 e19 t19 r19 => ?_
    refine s_rowP (Lm := Lm P w K mg base) (cs := cs) hLm ⟨4, flF ["late", "rest", "spot"] [v1, v2, .int 3], ["late", "rest", "spot"], [v1, v2, .int 3], .bl true⟩ t19 (fun H R h => mkP [v1, v2, .int 3] (fun R' h => ⟨v1, rfl, ⟨v2, rfl, h⟩⟩) rfl h) (fun H R t h => s_lamF t fun f c' H1 hf e1 t1 l1 k1 => h f H1 e1 t1 ⟨"_law_told", _, _, _, _, c', l1, k1, ⟨by intros; rfl, ⟨rfl, rfl, rfl, by decide, rfl, by decide +kernel, by decide +kernel⟩, fun A outer s H E f c' v Q hr h => ⟨_, pe_lstN (pa_cons (KX.fld (K := K) rfl (pe_var (i := 0) rfl (Or.inl rfl)) rfl) (pa_cons (KX.fld (K := K) rfl (pe_var (i := 0) rfl (Or.inl rfl)) rfl) (pa_cons (KX.fld (K := K) rfl (pe_var (i := 0) rfl (Or.inl rfl)) rfl) pa_nil))), s_tp3 h⟩⟩⟩)
      (fun H R h => ⟨v1, rfl, ⟨v2, rfl, ⟨(show 3 ≤ sizeLine by decide), fun p hp np => h p _ (ex_new hp) upd_same np⟩⟩⟩) (fun H R h => h) fun a20 H20 e20 t20 r20 => ?_
    refine s_rowP (Lm := Lm P w K mg base) (cs := cs) hLm ⟨5, flF ["spot", "rise"] [v1, v2], ["spot", "rise"], [v1, v2], .bl false⟩ t20 (fun H R h => mkPK [v1, v2] (fun R' hR => ⟨v1, rfl, ⟨v2, rfl, hR [] [v1, v2] rfl rfl fun a => rfl⟩⟩) rfl h) (fun H R t h => s_lamF t fun f c' H1 hf e1 t1 l1 k1 => h f H1 e1 t1 ⟨"_law_told", _, _, _, _, c', l1, k1, ⟨by intros; rfl, ⟨rfl, rfl, rfl, by decide, rfl, by decide +kernel, by decide +kernel⟩, fun A outer s H E f c' v Q hr h => ⟨_, pe_lstN (pa_cons (KX.fld (K := K) rfl (pe_var (i := 0) rfl (Or.inl rfl)) rfl) (pa_cons (KX.fld (K := K) rfl (pe_var (i := 0) rfl (Or.inl rfl)) rfl) pa_nil)), s_tp2 h⟩⟩⟩)
      (fun H R h => ⟨v1, rfl, ⟨v2, rfl, ⟨(show 2 ≤ sizeLine by decide), fun p hp np => h p _ (ex_new hp) upd_same np⟩⟩⟩) (fun H R h => h) fun a21 H21 e21 t21 r21 => ?_
    refine s_rowP (Lm := Lm P w K mg base) (cs := cs) hLm ⟨25, flF ["names", "late", "last"] [v1, v2, .int 3], ["names", "late", "last"], [v1, v2, .int 3], .bl true⟩ t21 (fun H R h => mkP [v1, v2, .int 3] (fun R' h => ⟨v1, rfl, ⟨v2, rfl, h⟩⟩) rfl h) (fun H R t h => s_lamF t fun f c' H1 hf e1 t1 l1 k1 => h f H1 e1 t1 ⟨"_law_told", _, _, _, _, c', l1, k1, ⟨by intros; rfl, ⟨rfl, rfl, rfl, by decide, rfl, by decide +kernel, by decide +kernel⟩, fun A outer s H E f c' v Q hr h => ⟨_, pe_lstN (pa_cons (KX.fld (K := K) rfl (pe_var (i := 0) rfl (Or.inl rfl)) rfl) (pa_cons (KX.fld (K := K) rfl (pe_var (i := 0) rfl (Or.inl rfl)) rfl) (pa_cons (KX.fld (K := K) rfl (pe_var (i := 0) rfl (Or.inl rfl)) rfl) pa_nil))), s_tp3 h⟩⟩⟩)
      (fun H R h => ⟨v1, rfl, ⟨v2, rfl, ⟨(show 3 ≤ sizeLine by decide), fun p hp np => h p _ (ex_new hp) upd_same np⟩⟩⟩) (fun H R h => h) fun a22 H22 e22 t22 r22 => ?_
    refine s_rowP (Lm := Lm P w K mg base) (cs := cs) hLm ⟨21, flF ["world"] [v1], ["world"], [v1], .bl true⟩ t22 (fun H R h => mkPK [v1] (fun R' hR => ⟨v1, rfl, hR [] [v1] rfl rfl fun a => rfl⟩) rfl h) (fun H R t h => s_lamF t fun f c' H1 hf e1 t1 l1 k1 => h f H1 e1 t1 ⟨"_law_told", _, _, _, _, c', l1, k1, ⟨by intros; rfl, ⟨rfl, rfl, rfl, by decide, rfl, by decide +kernel, by decide +kernel⟩, fun A outer s H E f c' v Q hr h => ⟨_, pe_lstN (pa_cons (KX.fld (K := K) rfl (pe_var (i := 0) rfl (Or.inl rfl)) rfl) pa_nil), s_tp1 h⟩⟩⟩)
      (fun H R h => ⟨v1, rfl, ⟨(show 1 ≤ sizeLine by decide), fun p hp np => h p _ (ex_new hp) upd_same np⟩⟩) (fun H R h => h) fun a23 H23 e23 t23 r23 => ?_
    refine s_rowP (Lm := Lm P w K mg base) (cs := cs) hLm ⟨22, flF ["at", "why"] [v1, v2], ["at", "why"], [v1, v2], .bl false⟩ t23 (fun H R h => mkP [v1, v2] (fun R' h => ⟨v1, rfl, ⟨v2, rfl, h⟩⟩) rfl h) (fun H R t h => s_lamF t fun f c' H1 hf e1 t1 l1 k1 => h f H1 e1 t1 ⟨"_law_told", _, _, _, _, c', l1, k1, ⟨by intros; rfl, ⟨rfl, rfl, rfl, by decide, rfl, by decide +kernel, by decide +kernel⟩, fun A outer s H E f c' v Q hr h => ⟨_, pe_lstN (pa_cons (KX.fld (K := K) rfl (pe_var (i := 0) rfl (Or.inl rfl)) rfl) (pa_cons (KX.fld (K := K) rfl (pe_var (i := 0) rfl (Or.inl rfl)) rfl) pa_nil)), s_tp2 h⟩⟩⟩)
      (fun H R h => ⟨v1, rfl, ⟨v2, rfl, ⟨(show 2 ≤ sizeLine by decide), fun p hp np => h p _ (ex_new hp) upd_same np⟩⟩⟩) (fun H R h => h) fun a24 H24 e24 t24 r24 => ?_
    refine s_rowP (Lm := Lm P w K mg base) (cs := cs) hLm ⟨23, flF ["workers"] [v1], ["workers"], [v1], .bl false⟩ t24 (fun H R h => mkPK [v1] (fun R' hR => ⟨v1, rfl, hR [] [v1] rfl rfl fun a => rfl⟩) rfl h) (fun H R t h => s_lamF t fun f c' H1 hf e1 t1 l1 k1 => h f H1 e1 t1 ⟨"_law_told", _, _, _, _, c', l1, k1, ⟨by intros; rfl, ⟨rfl, rfl, rfl, by decide, rfl, by decide +kernel, by decide +kernel⟩, fun A outer s H E f c' v Q hr h => ⟨_, pe_lstN (pa_cons (KX.fld (K := K) rfl (pe_var (i := 0) rfl (Or.inl rfl)) rfl) pa_nil), s_tp1 h⟩⟩⟩)
      (fun H R h => ⟨v1, rfl, ⟨(show 1 ≤ sizeLine by decide), fun p hp np => h p _ (ex_new hp) upd_same np⟩⟩) (fun H R h => h) fun a25 H25 e25 t25 r25 => ?_
    refine s_rowP (Lm := Lm P w K mg base) (cs := cs) hLm ⟨24, flF ["least", "most"] [v1, v2], ["least", "most"], [v1, v2], .bl true⟩ t25 (fun H R h => mkP [v1, v2] (fun R' h => ⟨v1, rfl, ⟨v2, rfl, h⟩⟩) rfl h) (fun H R t h => s_lamF t fun f c' H1 hf e1 t1 l1 k1 => h f H1 e1 t1 ⟨"_law_told", _, _, _, _, c', l1, k1, ⟨by intros; rfl, ⟨rfl, rfl, rfl, by decide, rfl, by decide +kernel, by decide +kernel⟩, fun A outer s H E f c' v Q hr h => ⟨_, pe_lstN (pa_cons (KX.fld (K := K) rfl (pe_var (i := 0) rfl (Or.inl rfl)) rfl) (pa_cons (KX.fld (K := K) rfl (pe_var (i := 0) rfl (Or.inl rfl)) rfl) pa_nil)), s_tp2 h⟩⟩⟩)
      (fun H R h => ⟨v1, rfl, ⟨v2, rfl, ⟨(show 2 ≤ sizeLine by decide), fun p hp np => h p _ (ex_new hp) upd_same np⟩⟩⟩) (fun H R h => h) fun a26 H26 e26 t26 r26 => ?_
    refine s_rowP (Lm := Lm P w K mg base) (cs := cs) hLm ⟨20, flF ["worker", "at", "begun", "ended"] [v1, v2, .int 3, .int 9], ["worker", "at", "begun"], [v1, v2, .int 3], .bl true⟩ t26 (fun H R h => mkP [v1, v2, .int 3, .int 9] (fun R' h => ⟨v1, rfl, ⟨v2, rfl, h⟩⟩) rfl h) (fun H R t h => s_lamF t fun f c' H1 hf e1 t1 l1 k1 => h f H1 e1 t1 ⟨"_law_told", _, _, _, _, c', l1, k1, ⟨by intros; rfl, ⟨rfl, rfl, rfl, by decide, rfl, by decide +kernel, by decide +kernel⟩, fun A outer s H E f c' v Q hr h => ⟨_, pe_lstN (pa_cons (KX.fld (K := K) rfl (pe_var (i := 0) rfl (Or.inl rfl)) rfl) (pa_cons (KX.fld (K := K) rfl (pe_var (i := 0) rfl (Or.inl rfl)) rfl) (pa_cons (KX.fld (K := K) rfl (pe_var (i := 0) rfl (Or.inl rfl)) rfl) pa_nil))), s_tp3 h⟩⟩⟩)
      (fun H R h => ⟨v1, rfl, ⟨v2, rfl, ⟨(show 3 ≤ sizeLine by decide), fun p hp np => h p _ (ex_new hp) upd_same np⟩⟩⟩) (fun H R h => h) fun a27 H27 e27 t27 r27 => ?_
    refine s_rowP (Lm := Lm P w K mg base) (cs := cs) hLm ⟨20, flF ["worker", "at", "begun", "ended"] [.int 1, .int 3, v2, v1], ["ended", "begun"], [v1, v2], .int 1⟩ t27 (fun H R h => mkPK [.int 1, .int 3, v2, v1] (fun R' hR => ⟨v1, rfl, ⟨v2, rfl, hR [] [v1, v2, .int 3, .int 1] rfl rfl fun a => rfl⟩⟩) rfl h) (fun H R t h => s_lamF t fun f c' H1 hf e1 t1 l1 k1 => h f H1 e1 t1 ⟨"_law_told", _, _, _, _, c', l1, k1, ⟨by intros; rfl, ⟨rfl, rfl, rfl, by decide, rfl, by decide +kernel, by decide +kernel⟩, fun A outer s H E f c' v Q hr h => ⟨_, pe_lstN (pa_cons (KX.fld (K := K) rfl (pe_var (i := 0) rfl (Or.inl rfl)) rfl) (pa_cons (KX.fld (K := K) rfl (pe_var (i := 0) rfl (Or.inl rfl)) rfl) pa_nil)), s_tp2 h⟩⟩⟩)
      (fun H R h => ⟨v1, rfl, ⟨v2, rfl, ⟨(show 2 ≤ sizeLine by decide), fun p hp np => h p _ (ex_new hp) upd_same np⟩⟩⟩) (fun H R h => h) fun a28 H28 e28 t28 r28 => ?_
    refine s_rowP (Lm := Lm P w K mg base) (cs := cs) hLm ⟨26, flF ["loop", "worker", "many", "begun", "ended"] [v1, v2, .int 3, .int 8, .int 9], ["loop", "worker", "many"], [v1, v2, .int 3], .int 1⟩ t28 (fun H R h => mkP [v1, v2, .int 3, .int 8, .int 9] (fun R' h => ⟨v1, rfl, ⟨v2, rfl, h⟩⟩) rfl h) (fun H R t h => s_lamF t fun f c' H1 hf e1 t1 l1 k1 => h f H1 e1 t1 ⟨"_law_told", _, _, _, _, c', l1, k1, ⟨by intros; rfl, ⟨rfl, rfl, rfl, by decide, rfl, by decide +kernel, by decide +kernel⟩, fun A outer s H E f c' v Q hr h => ⟨_, pe_lstN (pa_cons (KX.fld (K := K) rfl (pe_var (i := 0) rfl (Or.inl rfl)) rfl) (pa_cons (KX.fld (K := K) rfl (pe_var (i := 0) rfl (Or.inl rfl)) rfl) (pa_cons (KX.fld (K := K) rfl (pe_var (i := 0) rfl (Or.inl rfl)) rfl) pa_nil))), s_tp3 h⟩⟩⟩)
      (fun H R h => ⟨v1, rfl, ⟨v2, rfl, ⟨(show 3 ≤ sizeLine by decide), fun p hp np => h p _ (ex_new hp) upd_same np⟩⟩⟩) (fun H R h => h) fun a29 H29 e29 t29 r29 => ?_
    refine s_rowP (Lm := Lm P w K mg base) (cs := cs) hLm ⟨26, flF ["loop", "worker", "many", "begun", "ended"] [.int 1, .int 2, .int 3, v2, v1], ["begun", "ended"], [v2, v1], .bl true⟩ t29 (fun H R h => mkPK [.int 1, .int 2, .int 3, v2, v1] (fun R' hR => ⟨v1, rfl, ⟨v2, rfl, hR [.int 1, .int 2, .int 3] [v1, v2] rfl rfl fun a => rfl⟩⟩) rfl h) (fun H R t h => s_lamF t fun f c' H1 hf e1 t1 l1 k1 => h f H1 e1 t1 ⟨"_law_told", _, _, _, _, c', l1, k1, ⟨by intros; rfl, ⟨rfl, rfl, rfl, by decide, rfl, by decide +kernel, by decide +kernel⟩, fun A outer s H E f c' v Q hr h => ⟨_, pe_lstN (pa_cons (KX.fld (K := K) rfl (pe_var (i := 0) rfl (Or.inl rfl)) rfl) (pa_cons (KX.fld (K := K) rfl (pe_var (i := 0) rfl (Or.inl rfl)) rfl) pa_nil)), s_tp2 h⟩⟩⟩)
      (fun H R h => ⟨v2, rfl, ⟨v1, rfl, ⟨(show 2 ≤ sizeLine by decide), fun p hp np => h p _ (ex_new hp) upd_same np⟩⟩⟩) (fun H R h => h) fun a30 H30 e30 t30 r30 => ?_
    refine s_nil ?_
    refine s_newN (Nat.le_of_lt (small1000 (by simp))) fun l H' hl nl e' h' => ?_
    have E30 : ExtN H30 H' := e'.n
    have E29 := e30.trans E30
    have E28 := e29.trans E29
    have E27 := e28.trans E28
    have E26 := e27.trans E27
    have E25 := e26.trans E26
    have E24 := e25.trans E25
    have E23 := e24.trans E24
    have E22 := e23.trans E23
    have E21 := e22.trans E22
    have E20 := e21.trans E21
    have E19 := e20.trans E20
    have E18 := e19.trans E19
    have E17 := e18.trans E18
    have E16 := e17.trans E17
    have E15 := e16.trans E16
    have E14 := e15.trans E15
    have E13 := e14.trans E14
    have E12 := e13.trans E13
    have E11 := e12.trans E12
    have E10 := e11.trans E11
    have E9 := e10.trans E10
    have E8 := e9.trans E9
    have E7 := e8.trans E8
    have E6 := e7.trans E7
    have E5 := e6.trans E6
    have E4 := e5.trans E5
    have E3 := e4.trans E4
    have E2 := e3.trans E3
    have E1 := e2.trans E2
    have E0 := e1.trans E1
    exact k l H' _ E0 (t30.ext e') h' (.cons (r1.exN hLm E1) (.cons (r2.exN hLm E2) (.cons (r3.exN hLm E3) (.cons (r4.exN hLm E4) (.cons (r5.exN hLm E5) (.cons (r6.exN hLm E6) (.cons (r7.exN hLm E7) (.cons (r8.exN hLm E8) (.cons (r9.exN hLm E9) (.cons (r10.exN hLm E10) (.cons (r11.exN hLm E11) (.cons (r12.exN hLm E12) (.cons (r13.exN hLm E13) (.cons (r14.exN hLm E14) (.cons (r15.exN hLm E15) (.cons (r16.exN hLm E16) (.cons (r17.exN hLm E17) (.cons (r18.exN hLm E18) (.cons (r19.exN hLm E19) (.cons (r20.exN hLm E20) (.cons (r21.exN hLm E21) (.cons (r22.exN hLm E22) (.cons (r23.exN hLm E23) (.cons (r24.exN hLm E24) (.cons (r25.exN hLm E25) (.cons (r26.exN hLm E26) (.cons (r27.exN hLm E27) (.cons (r28.exN hLm E28) (.cons (r29.exN hLm E29) (.cons (r30.exN hLm E30) .nil))))))))))))))))))))))))))))))
end
end K03
end
section
local macro_rules | `(tactic| tm_at "s1") => `(tactic| first
  | with_reducible first
    | refine L3.s_seq ?_ | refine L3.s_asg ?_ | refine L3.s_op ?_ | refine L3.s_c ?_ | refine L3.s_cb ?_ | refine L3.s_cons ?_ | refine L3.s_nil ?_ | refine L3.s_test ?_ | refine L3.s_bl ?_
    | refine L3.s_I0 ?_ | refine L3.s_and ?_ | refine L3.s_or ?_ | refine L3.s_not ?_ | refine L3.s_if ?_ | refine L3.s_next ?_ | refine L3.s_ret ?_ | refine L3.s_retN ?_ | refine L3.s_asgS ?_ | refine L3.s_drop ?_
    | refine L3.s_un ?_ | refine L3.s_U ?_ | refine L3.s_int ?_ | refine L3.s_intB ?_ | refine L3.s_abs ?_ | refine L3.s_andV ?_ | refine L3.s_orV ?_ | refine L3.s_notV ?_ | refine L3.s_ifE ?_ | refine L3.s_call ?_ | refine L3.s_lst ?_ | refine L3.s_tup ?_ | refine L3.s_tB ?_
    | refine L3.s_addI ?_ | refine L3.s_inS ?_ | refine L3.s_ninS ?_ | refine L3.s_slice ?_ | refine L3.s_part ?_ | refine L3.s_partI ?_ | refine L3.s_nopart ?_ | refine L3.s_cI ?_ | refine L3.s_cB ?_ | refine L3.s_chain ?_ | refine L3.s_bm ?_ | refine L3.s_lcS ?_ | refine L3.s_lcR ?_ | refine L3.s_strE ?_
    | refine L2.iteT ?_ | refine L2.iteF ?_ | refine L3.iteNF ?_ | refine L3.iteNT ?_
    | refine L3.s_eqI ?_ | refine L3.s_neI ?_ | refine L3.s_eqS ?_ | refine L3.s_neS ?_
    | refine L3.s_pair ?_ | refine L3.s_pair2 ?_ | refine L3.s_fld ?_ | refine L3.s_make ?_ | refine L3.s_m1 ?_ | refine L3.s_isstr ?_
    | refine L3.s_xfV ?_ | refine L3.s_lstN ?_ | refine L3.s_callF ?_ | refine L3.s_lcL ?_ | refine L3.s_par3 ?_ | refine L3.s_trip ?_ | refine L3.s_asgT' ?_ | refine L3.s_gC ?_ | refine L3.s_gN ?_ | refine L3.s_fldG ?_ | refine L3.s_raise1 ?_
    | refine L3.s_isN ?_ | refine L3.s_isB ?_ | refine L3.s_nisN ?_ | refine L3.s_nisB ?_
  | ((with_reducible refine' L3.s_var ?e ?_); (case e => rfl))
  | ((with_reducible refine' L3.s_aug ?e ?_); (case e => rfl))
  | ((with_reducible refine' L3.s_pow ?c ?_); (case c => exact ⟨by decide, by decide, by decide⟩)))
local macro_rules | `(tactic| tm_at "s") => `(tactic| repeat tm_at "s1")
namespace K03
open PySem PySem.Spec PyProof.Rows L2 L3 LamX
def Fv (v1 v2 v3 x : V) : Prop := x = v1 ∨ x = v2 ∨ x = v3 ∨ ∃ i : Int, 0 ≤ i ∧ i < 10 ∧ x = .int i
theorem fvN {v1 v2 v3 : V} : ∀ x ∈ ([] : List V), Fv v1 v2 v3 x := fun x hx => nomatch hx
theorem fvC {v1 v2 v3 x : V} {r : List V} (h : Fv v1 v2 v3 x) (hr : ∀ y ∈ r, Fv v1 v2 v3 y) : ∀ y ∈ x :: r, Fv v1 v2 v3 y := fun y hy => (List.mem_cons.mp hy).elim (fun e => by rw [e]; exact h) (hr y)
structure GoodR (v1 v2 v3 : V) (r : RowD) : Prop where
  c : r.c < 27
  gl : ∀ g ∈ r.gs, g ∈ flds r.c
  hm : r.gs.map (fun g => r.fs.lookup g) = r.vs.map some
  vs : ∀ x ∈ r.vs, Fv v1 v2 v3 x
  ln : r.vs.length ≤ 3
  ow : r.fs.lookup ("own_row" : Str) = none
  fx : ∃ xs : List V, (flds r.c).map (fun g => r.fs.lookup g) = xs.map some ∧ ∀ x ∈ xs, Fv v1 v2 v3 x
  B : r.B = .bl (!den r.c) ∨ (den r.c = false ∧ r.B = .int 1)
theorem good (v1 v2 v3 : V) : ∀ r ∈ rowT v1 v2 v3, GoodR v1 v2 v3 r := by
  intro r hr
  simp only [rowT, List.mem_cons, List.not_mem_nil, or_false] at hr
  rcases hr with rfl | rfl | rfl | rfl | rfl | rfl | rfl | rfl | rfl | rfl | rfl | rfl | rfl | rfl | rfl | rfl | rfl | rfl | rfl | rfl | rfl | rfl | rfl | rfl | rfl | rfl | rfl | rfl | rfl | rfl
  · exact ⟨(show 0 < 27 by decide), (show ∀ g ∈ (["chunks"] : List Str), g ∈ flds 0 by decide), rfl, (fvC (.inl rfl) fvN), by simp, rfl, ⟨[v1], rfl, (fvC (.inl rfl) fvN)⟩, .inl rfl⟩
  · exact ⟨(show 1 < 27 by decide), (show ∀ g ∈ (["rests"] : List Str), g ∈ flds 1 by decide), rfl, (fvC (.inl rfl) fvN), by simp, rfl, ⟨[v1], rfl, (fvC (.inl rfl) fvN)⟩, .inl rfl⟩
  · exact ⟨(show 2 < 27 by decide), (show ∀ g ∈ (["total", "chunks"] : List Str), g ∈ flds 2 by decide), rfl, (fvC (.inl rfl) (fvC (.inr (.inl rfl)) fvN)), by simp, rfl, ⟨[v1, v2], rfl, (fvC (.inl rfl) (fvC (.inr (.inl rfl)) fvN))⟩, .inl rfl⟩
  · exact ⟨(show 3 < 27 by decide), (show ∀ g ∈ (["limit", "chunks", "below"] : List Str), g ∈ flds 3 by decide), rfl, (fvC (.inl rfl) (fvC (.inr (.inl rfl)) (fvC (.inr (.inr (.inl rfl))) fvN))), by simp, rfl, ⟨[v1, v2, v3], rfl, (fvC (.inl rfl) (fvC (.inr (.inl rfl)) (fvC (.inr (.inr (.inl rfl))) fvN)))⟩, .inl rfl⟩
  · exact ⟨(show 3 < 27 by decide), (show ∀ g ∈ (["limit", "below"] : List Str), g ∈ flds 3 by decide), rfl, (fvC (.inr (.inr (.inl rfl))) (fvC (.inl rfl) fvN)), by simp, rfl, ⟨[v3, v2, v1], rfl, (fvC (.inr (.inr (.inl rfl))) (fvC (.inr (.inl rfl)) (fvC (.inl rfl) fvN)))⟩, .inl rfl⟩
  · exact ⟨(show 19 < 27 by decide), (show ∀ g ∈ (["late", "at", "world"] : List Str), g ∈ flds 19 by decide), rfl, (fvC (.inl rfl) (fvC (.inr (.inl rfl)) (fvC (.inr (.inr (.inl rfl))) fvN))), by simp, rfl, ⟨[v1, v2, v3], rfl, (fvC (.inl rfl) (fvC (.inr (.inl rfl)) (fvC (.inr (.inr (.inl rfl))) fvN)))⟩, .inl rfl⟩
  · exact ⟨(show 15 < 27 by decide), (show ∀ g ∈ (["late", "rest"] : List Str), g ∈ flds 15 by decide), rfl, (fvC (.inr (.inl rfl)) (fvC (.inl rfl) fvN)), by simp, rfl, ⟨[v2, v1], rfl, (fvC (.inr (.inl rfl)) (fvC (.inl rfl) fvN))⟩, .inl rfl⟩
  · exact ⟨(show 16 < 27 by decide), (show ∀ g ∈ (["residue", "begin"] : List Str), g ∈ flds 16 by decide), rfl, (fvC (.inl rfl) (fvC (.inr (.inl rfl)) fvN)), by simp, rfl, ⟨[v1, v2], rfl, (fvC (.inl rfl) (fvC (.inr (.inl rfl)) fvN))⟩, .inl rfl⟩
  · exact ⟨(show 17 < 27 by decide), (show ∀ g ∈ (["table"] : List Str), g ∈ flds 17 by decide), rfl, (fvC (.inl rfl) fvN), by simp, rfl, ⟨[v1], rfl, (fvC (.inl rfl) fvN)⟩, .inl rfl⟩
  · exact ⟨(show 18 < 27 by decide), (show ∀ g ∈ (["rest", "late"] : List Str), g ∈ flds 18 by decide), rfl, (fvC (.inl rfl) (fvC (.inr (.inl rfl)) fvN)), by simp, rfl, ⟨[v1, v2], rfl, (fvC (.inl rfl) (fvC (.inr (.inl rfl)) fvN))⟩, .inl rfl⟩
  · exact ⟨(show 6 < 27 by decide), (show ∀ g ∈ (["begins"] : List Str), g ∈ flds 6 by decide), rfl, (fvC (.inl rfl) fvN), by simp, rfl, ⟨[v1], rfl, (fvC (.inl rfl) fvN)⟩, .inl rfl⟩
  · exact ⟨(show 8 < 27 by decide), (show ∀ g ∈ (["begins"] : List Str), g ∈ flds 8 by decide), rfl, (fvC (.inl rfl) fvN), by simp, rfl, ⟨[v1], rfl, (fvC (.inl rfl) fvN)⟩, .inl rfl⟩
  · exact ⟨(show 10 < 27 by decide), (show ∀ g ∈ (["first", "last"] : List Str), g ∈ flds 10 by decide), rfl, (fvC (.inl rfl) (fvC (.inr (.inl rfl)) fvN)), by simp, rfl, ⟨[v1, v2], rfl, (fvC (.inl rfl) (fvC (.inr (.inl rfl)) fvN))⟩, .inl rfl⟩
  · exact ⟨(show 12 < 27 by decide), (show ∀ g ∈ (["never", "steady"] : List Str), g ∈ flds 12 by decide), rfl, (fvC (.inr (.inl rfl)) (fvC (.inl rfl) fvN)), by simp, rfl, ⟨[v2, v1], rfl, (fvC (.inr (.inl rfl)) (fvC (.inl rfl) fvN))⟩, .inl rfl⟩
  · exact ⟨(show 7 < 27 by decide), (show ∀ g ∈ (["rest"] : List Str), g ∈ flds 7 by decide), rfl, (fvC (.inl rfl) fvN), by simp, rfl, ⟨[v1], rfl, (fvC (.inl rfl) fvN)⟩, .inl rfl⟩
  · exact ⟨(show 9 < 27 by decide), (show ∀ g ∈ (["rest"] : List Str), g ∈ flds 9 by decide), rfl, (fvC (.inl rfl) fvN), by simp, rfl, ⟨[v1], rfl, (fvC (.inl rfl) fvN)⟩, .inl rfl⟩
  · exact ⟨(show 11 < 27 by decide), (show ∀ g ∈ (["rest"] : List Str), g ∈ flds 11 by decide), rfl, (fvC (.inl rfl) fvN), by simp, rfl, ⟨[v1], rfl, (fvC (.inl rfl) fvN)⟩, .inl rfl⟩
  · exact ⟨(show 13 < 27 by decide), (show ∀ g ∈ (["total", "counts"] : List Str), g ∈ flds 13 by decide), rfl, (fvC (.inl rfl) (fvC (.inr (.inl rfl)) fvN)), by simp, rfl, ⟨[v1, v2], rfl, (fvC (.inl rfl) (fvC (.inr (.inl rfl)) fvN))⟩, .inl rfl⟩
  · exact ⟨(show 14 < 27 by decide), (show ∀ g ∈ (["upto"] : List Str), g ∈ flds 14 by decide), rfl, (fvC (.inl rfl) fvN), by simp, rfl, ⟨[v1], rfl, (fvC (.inl rfl) fvN)⟩, .inl rfl⟩
  · exact ⟨(show 4 < 27 by decide), (show ∀ g ∈ (["late", "rest", "spot"] : List Str), g ∈ flds 4 by decide), rfl, (fvC (.inl rfl) (fvC (.inr (.inl rfl)) (fvC (.inr (.inr (.inr ⟨3, by decide, by decide, rfl⟩))) fvN))), by simp, rfl, ⟨[v1, v2, .int 3], rfl, (fvC (.inl rfl) (fvC (.inr (.inl rfl)) (fvC (.inr (.inr (.inr ⟨3, by decide, by decide, rfl⟩))) fvN)))⟩, .inl rfl⟩
  · exact ⟨(show 5 < 27 by decide), (show ∀ g ∈ (["spot", "rise"] : List Str), g ∈ flds 5 by decide), rfl, (fvC (.inl rfl) (fvC (.inr (.inl rfl)) fvN)), by simp, rfl, ⟨[v1, v2], rfl, (fvC (.inl rfl) (fvC (.inr (.inl rfl)) fvN))⟩, .inl rfl⟩
  · exact ⟨(show 25 < 27 by decide), (show ∀ g ∈ (["names", "late", "last"] : List Str), g ∈ flds 25 by decide), rfl, (fvC (.inl rfl) (fvC (.inr (.inl rfl)) (fvC (.inr (.inr (.inr ⟨3, by decide, by decide, rfl⟩))) fvN))), by simp, rfl, ⟨[v1, v2, .int 3], rfl, (fvC (.inl rfl) (fvC (.inr (.inl rfl)) (fvC (.inr (.inr (.inr ⟨3, by decide, by decide, rfl⟩))) fvN)))⟩, .inl rfl⟩
  · exact ⟨(show 21 < 27 by decide), (show ∀ g ∈ (["world"] : List Str), g ∈ flds 21 by decide), rfl, (fvC (.inl rfl) fvN), by simp, rfl, ⟨[v1], rfl, (fvC (.inl rfl) fvN)⟩, .inl rfl⟩
  · exact ⟨(show 22 < 27 by decide), (show ∀ g ∈ (["at", "why"] : List Str), g ∈ flds 22 by decide), rfl, (fvC (.inl rfl) (fvC (.inr (.inl rfl)) fvN)), by simp, rfl, ⟨[v1, v2], rfl, (fvC (.inl rfl) (fvC (.inr (.inl rfl)) fvN))⟩, .inl rfl⟩
  · exact ⟨(show 23 < 27 by decide), (show ∀ g ∈ (["workers"] : List Str), g ∈ flds 23 by decide), rfl, (fvC (.inl rfl) fvN), by simp, rfl, ⟨[v1], rfl, (fvC (.inl rfl) fvN)⟩, .inl rfl⟩
  · exact ⟨(show 24 < 27 by decide), (show ∀ g ∈ (["least", "most"] : List Str), g ∈ flds 24 by decide), rfl, (fvC (.inl rfl) (fvC (.inr (.inl rfl)) fvN)), by simp, rfl, ⟨[v1, v2], rfl, (fvC (.inl rfl) (fvC (.inr (.inl rfl)) fvN))⟩, .inl rfl⟩
  · exact ⟨(show 20 < 27 by decide), (show ∀ g ∈ (["worker", "at", "begun"] : List Str), g ∈ flds 20 by decide), rfl, (fvC (.inl rfl) (fvC (.inr (.inl rfl)) (fvC (.inr (.inr (.inr ⟨3, by decide, by decide, rfl⟩))) fvN))), by simp, rfl, ⟨[v1, v2, .int 3, .int 9], rfl, (fvC (.inl rfl) (fvC (.inr (.inl rfl)) (fvC (.inr (.inr (.inr ⟨3, by decide, by decide, rfl⟩))) (fvC (.inr (.inr (.inr ⟨9, by decide, by decide, rfl⟩))) fvN))))⟩, .inl rfl⟩
  · exact ⟨(show 20 < 27 by decide), (show ∀ g ∈ (["ended", "begun"] : List Str), g ∈ flds 20 by decide), rfl, (fvC (.inl rfl) (fvC (.inr (.inl rfl)) fvN)), by simp, rfl, ⟨[.int 1, .int 3, v2, v1], rfl, (fvC (.inr (.inr (.inr ⟨1, by decide, by decide, rfl⟩))) (fvC (.inr (.inr (.inr ⟨3, by decide, by decide, rfl⟩))) (fvC (.inr (.inl rfl)) (fvC (.inl rfl) fvN))))⟩, .inr ⟨rfl, rfl⟩⟩
  · exact ⟨(show 26 < 27 by decide), (show ∀ g ∈ (["loop", "worker", "many"] : List Str), g ∈ flds 26 by decide), rfl, (fvC (.inl rfl) (fvC (.inr (.inl rfl)) (fvC (.inr (.inr (.inr ⟨3, by decide, by decide, rfl⟩))) fvN))), by simp, rfl, ⟨[v1, v2, .int 3, .int 8, .int 9], rfl, (fvC (.inl rfl) (fvC (.inr (.inl rfl)) (fvC (.inr (.inr (.inr ⟨3, by decide, by decide, rfl⟩))) (fvC (.inr (.inr (.inr ⟨8, by decide, by decide, rfl⟩))) (fvC (.inr (.inr (.inr ⟨9, by decide, by decide, rfl⟩))) fvN)))))⟩, .inr ⟨rfl, rfl⟩⟩
  · exact ⟨(show 26 < 27 by decide), (show ∀ g ∈ (["begun", "ended"] : List Str), g ∈ flds 26 by decide), rfl, (fvC (.inr (.inl rfl)) (fvC (.inl rfl) fvN)), by simp, rfl, ⟨[.int 1, .int 2, .int 3, v2, v1], rfl, (fvC (.inr (.inr (.inr ⟨1, by decide, by decide, rfl⟩))) (fvC (.inr (.inr (.inr ⟨2, by decide, by decide, rfl⟩))) (fvC (.inr (.inr (.inr ⟨3, by decide, by decide, rfl⟩))) (fvC (.inr (.inl rfl)) (fvC (.inl rfl) fvN)))))⟩, .inl rfl⟩
def clsT : List Nat := [0, 1, 2, 3, 3, 19, 15, 16, 17, 18, 6, 8, 10, 12, 7, 9, 11, 13, 14, 4, 5, 25, 21, 22, 23, 24, 20, 20, 26, 26]
theorem cls_of (v1 v2 v3 : V) : (rowT v1 v2 v3).map (·.c) = clsT := rfl
theorem cls_ne : ∀ i, i < 29 → i ≠ 3 → i ≠ 26 → i ≠ 28 → clsT.getD i 0 ≠ clsT.getD (i + 1) 0 := by decide
end K03
end
section
local macro_rules | `(tactic| tm_at "s1") => `(tactic| first
  | with_reducible first
    | refine L3.s_seq ?_ | refine L3.s_asg ?_ | refine L3.s_op ?_ | refine L3.s_c ?_ | refine L3.s_cb ?_ | refine L3.s_cons ?_ | refine L3.s_nil ?_ | refine L3.s_test ?_ | refine L3.s_bl ?_
    | refine L3.s_I0 ?_ | refine L3.s_and ?_ | refine L3.s_or ?_ | refine L3.s_not ?_ | refine L3.s_if ?_ | refine L3.s_next ?_ | refine L3.s_ret ?_ | refine L3.s_retN ?_ | refine L3.s_asgS ?_ | refine L3.s_drop ?_
    | refine L3.s_un ?_ | refine L3.s_U ?_ | refine L3.s_int ?_ | refine L3.s_intB ?_ | refine L3.s_abs ?_ | refine L3.s_andV ?_ | refine L3.s_orV ?_ | refine L3.s_notV ?_ | refine L3.s_ifE ?_ | refine L3.s_call ?_ | refine L3.s_lst ?_ | refine L3.s_tup ?_ | refine L3.s_tB ?_
    | refine L3.s_addI ?_ | refine L3.s_inS ?_ | refine L3.s_ninS ?_ | refine L3.s_slice ?_ | refine L3.s_part ?_ | refine L3.s_partI ?_ | refine L3.s_nopart ?_ | refine L3.s_cI ?_ | refine L3.s_cB ?_ | refine L3.s_chain ?_ | refine L3.s_bm ?_ | refine L3.s_lcS ?_ | refine L3.s_lcR ?_ | refine L3.s_strE ?_
    | refine L2.iteT ?_ | refine L2.iteF ?_ | refine L3.iteNF ?_ | refine L3.iteNT ?_
    | refine L3.s_eqI ?_ | refine L3.s_neI ?_ | refine L3.s_eqS ?_ | refine L3.s_neS ?_
    | refine L3.s_pair ?_ | refine L3.s_pair2 ?_ | refine L3.s_fld ?_ | refine L3.s_make ?_ | refine L3.s_m1 ?_ | refine L3.s_isstr ?_
    | refine L3.s_xfV ?_ | refine L3.s_lstN ?_ | refine L3.s_callF ?_ | refine L3.s_lcL ?_ | refine L3.s_par3 ?_ | refine L3.s_trip ?_ | refine L3.s_asgT' ?_ | refine L3.s_gC ?_ | refine L3.s_gN ?_ | refine L3.s_fldG ?_ | refine L3.s_raise1 ?_
    | refine L3.s_isN ?_ | refine L3.s_isB ?_ | refine L3.s_nisN ?_ | refine L3.s_nisB ?_
  | ((with_reducible refine' L3.s_var ?e ?_); (case e => rfl))
  | ((with_reducible refine' L3.s_aug ?e ?_); (case e => rfl))
  | ((with_reducible refine' L3.s_pow ?c ?_); (case c => exact ⟨by decide, by decide, by decide⟩)))
local macro_rules | `(tactic| tm_at "s") => `(tactic| repeat tm_at "s1")
namespace K03
open PySem PySem.Spec PyProof.Rows L2 L3 LamX
abbrev s_law : Stmt := topS 45
abbrev names_law : List Str := ["_law_script", "_law_pen_here", "_law_lap", "_law_first", "_law_second", "_law_third", "_law_made_here", "_law_again", "_law_k", "_law_paper_so", "_law_tell", "_law_due", "_law_is_true", "_law_twins", "_law_told_so", "_law_pair"]
theorem sc_law : FnScope ["_law_script", "_law_pen_here", "_law_lap", "_law_first", "_law_second", "_law_third", "_law_made_here", "_law_again", "_law_k", "_law_paper_so", "_law_tell", "_law_due", "_law_is_true", "_law_twins", "_law_told_so", "_law_pair"] ["_law_script"] (defScope s_law) := ⟨rfl, rfl, rfl, by decide +kernel, rfl, by decide +kernel, by decide +kernel⟩
section
variable {P : Program} {w : World} {K : PySem.W.Frag} {mg : Str → Option Value} {base : Heap} {cs : List Addr} {CP CD fb : Addr}
def spLaw (K : PySem.W.Frag) (TT : List (Addr × Str)) : Sp := fun vs H Q _ => ∃ a ns, vs = [.ref a] ∧ SqL K H a (ns.map V.int) ∧ (ns : List Int).length ≤ 63 ∧ Tabs TT H ∧ ∀ H', Q (.bl true) H'
theorem paired_get {R : V → RowD → Prop} {xs : List V} {ys : List RowD} (h : Paired R xs ys) : ∀ i, i < ys.length → ∃ x y, xs[i]? = some x ∧ ys[i]? = some y ∧ R x y := by
  induction h with
  | nil => intro i hi; simp at hi
  | cons a _ ih =>
    intro i hi
    cases i with
    | zero => exact ⟨_, _, rfl, rfl, a⟩
    | succ i => exact ih i (by simpa using hi)
theorem vok_int {i : Int} (h0 : 0 ≤ i) (h1 : i < 10) : VOk (.int i) := by
  obtain rfl | rfl | rfl | rfl | rfl | rfl | rfl | rfl | rfl | rfl : i = 0 ∨ i = 1 ∨ i = 2 ∨ i = 3 ∨ i = 4 ∨ i = 5 ∨ i = 6 ∨ i = 7 ∨ i = 8 ∨ i = 9 := by omega
  all_goals exact vok (by decide +kernel)
theorem vd3 {H : Hp} {v1 v2 v3 : V} {d1 d2 d3 : PyData} (h1 : Vd H v1 d1) (h2 : Vd H v2 d2) (h3 : Vd H v3 d3) (o1 : VOk d1) (o2 : VOk d2) (o3 : VOk d3) : ∀ {vs : List V}, (∀ x ∈ vs, Fv v1 v2 v3 x) → ∃ ds, VdAll H vs ds ∧ ds.length = vs.length ∧ ∀ d ∈ ds, VOk d
  | [], _ => ⟨[], .nil, rfl, fun _ h => nomatch h⟩
  | x :: r, h => by
    obtain ⟨ds, a, b, c⟩ := vd3 h1 h2 h3 o1 o2 o3 fun y hy => h y (List.mem_cons_of_mem _ hy)
    have go : ∀ {d}, Vd H x d → VOk d → ∃ ds, VdAll H (x :: r) ds ∧ ds.length = (x :: r).length ∧ ∀ d ∈ ds, VOk d := fun {d} hd ho => ⟨d :: ds, .cons hd a, by simp [b], fun e he => (List.mem_cons.mp he).elim (fun z => by rw [z]; exact ho) (c e)⟩
    rcases h x List.mem_cons_self with rfl | rfl | rfl | ⟨i, i0, i1, rfl⟩
    · exact go h1 o1
    · exact go h2 o2
    · exact go h3 o3
    · exact go (.int i) (vok_int i0 i1)
theorem pqFv {H : Hp} {v1 v2 v3 x : V} {d1 d2 d3 : PyData} (h1 : Vd H v1 d1) (h2 : Vd H v2 d2) (h3 : Vd H v3 d3) (o1 : VSh d1) (o2 : VSh d2) (o3 : VSh d3) (h : Fv v1 v2 v3 x) : Pq K H x x true := by
  rcases h with rfl | rfl | rfl | ⟨i, _, _, rfl⟩
  · exact h1.pq o1
  · exact h2.pq o2
  · exact h3.pq o3
  · have := pqInt (K := K) (H := H) i i
    rw [decide_eq_true rfl] at this
    exact this
theorem pqB {H : Hp} {b : Bool} {B : V} (h : B = .bl b ∨ (b = true ∧ B = .int 1)) : Pq K H (.bl b) B true := by
  rcases h with rfl | ⟨rfl, rfl⟩
  · have := Pq.dat (K := K) (H := H) (.bl b) (.bl b) rfl rfl
    rw [SeqAt.eqv_refl _ rfl] at this
    exact this
  · exact Pq.dat (.bl true) (.int 1) rfl rfl
theorem pqN {H : Hp} {b : Bool} {B : V} (h : B = .bl b ∨ (b = true ∧ B = .int 1)) : Pq K H (.bl (!b)) B false := by
  rcases h with rfl | ⟨rfl, rfl⟩
  · cases b
    · exact Pq.dat (.bl true) (.bl false) rfl rfl
    · exact Pq.dat (.bl false) (.bl true) rfl rfl
  · exact Pq.dat (.bl false) (.int 1) rfl rfl
/-- [x for x in xs if t] -/
theorem lcFL {σ : L2.St} {H : Hp} {Q : VK} {te : TE} {a : Addr} {xs : List V} {j : Nat} {tt : TT} {vs : List Nat} (b : Nat → Bool) (ha : H a = some (.lst xs)) (hz : xs.length < sizeLine) (hw : ∀ x, wipe ((wipe σ vs).set j (some x)) vs = wipe σ vs)
    (ht : ∀ (i : Nat) (x : V) (H1 : Hp) (R : Bool → Hp → Prop), xs[i]? = some x → Ex H H1 → R (b i) H1 → tt ((wipe σ vs).set j (some x)) H1 R) (he : ∀ (x : V) (H1 : Hp) (R : VK), R x H1 → te ((wipe σ vs).set j (some x)) H1 R)
    (k : ∀ D H2, H D = none → Ex H H2 → H2 D = some (.lst (((List.range xs.length).filter b).map fun i => xs.getD i .non)) → Q (.ref D) H2) : LC (Itl K a) (gName j) tt te vs σ H Q := by
  intro D hD
  refine lc_list (K := K) (a := a) (xs := xs) (fun n H1 => Ex H H1 ∧ H1 D = some (.lst (((List.range n).filter b).map fun i => xs.getD i .non))) ⟨ex_new hD, upd_same⟩ (fun n H1 _ ⟨e, _⟩ => .inl (.inl (e _ _ ha))) (fun n x H1 hx ⟨e, h1⟩ => ?_) (fun H1 ⟨e, h1⟩ => k D H1 hD e h1)
  have hn : n < xs.length := (List.getElem?_eq_some_iff.mp hx).1
  have er : List.range (n + 1) = List.range n ++ [n] := List.range_succ
  have eg : xs.getD n .non = x := by simp [List.getD, hx]
  refine ⟨hw _, ht n x H1 _ hx e ?_⟩
  cases hb : b n with
  | true =>
    refine iteT (he x H1 _ ⟨_, h1, ?_, fun c o hc => ?_, ?_⟩)
    · rw [List.length_map]
      exact Nat.lt_of_le_of_lt (Nat.le_trans (List.length_filter_le _ _) (by rw [List.length_range]; omega)) hz
    · rw [upd_ne (ne_of_none hc hD)]; exact e _ _ hc
    · rw [upd_same, er, List.filter_append, List.map_append]
      simp [hb, hx]
  | false =>
    refine iteF ⟨e, ?_⟩
    rw [er, List.filter_append]
    simpa [hb] using h1
theorem s_mkP {C : Addr} {ns : List Str} {xs : List V} {H : Hp} {R : VK} {E : XK} (hl : xs.length = ns.length) (h : ∀ q H', H q = none → Ex H H' → PaAt H' q C (flF ns xs) → R (.ref q) H') : ∀ p dx, H p = none → H dx = none → dx ≠ p → spInit C ns (.ref p :: (xs ++ [])) (upd (upd H dx (.own p)) p (.ins C dx [])) (fun v H2 => v = .non ∧ ap R (.ref p) H2) E :=
  fun p dx hp hd hn => ⟨p, dx, xs, by rw [List.append_nil], hl, upd_same, fun H' hk h1 => ⟨rfl, h p H' hp (fun c o e => hk c o (ne_of_none e hp) (by rw [upd_ne (ne_of_none e hp), upd_ne (ne_of_none e hd)]; exact e)) ⟨dx, h1⟩⟩⟩
theorem s_eqPa {j : Nat} {p q : Addr} {fs fs' : List (Str × V)} {xs ys : List V} {bs : List Bool} {ns : List Str} {H : Hp} {Q : VK} {E : XK} {sp : Nat → Sp} (hsp : sp j = spEqC K (cs.getD j 0) ns) (hj : j < cs.length) (h1 : PaAt H p (cs.getD j 0) fs) (h2 : PaAt H q (cs.getD j 0) fs') (no1 : fs.lookup ("own_row" : Str) = none) (no2 : fs'.lookup ("own_row" : Str) = none)
    (m1 : ns.map (fun n => fs.lookup n) = xs.map some) (m2 : ns.map (fun n => fs'.lookup n) = ys.map some) (pq : PqAll K H xs ys bs) (k : ∀ H', Ex H H' → Q (.bl (bs.all id)) H') : rOwnL K cs sp E (.ref p) (.ref q) H Q := by
  obtain ⟨dx, g1⟩ := id h1
  obtain ⟨dx', g2⟩ := id h2
  exact ⟨j, hj, p, dx, _, rfl, g1, .inl (.inl (.inl ⟨q, dx', _, rfl, g2⟩)), by rw [hsp]; exact ⟨p, .ref q, fs, rfl, h1, .inl ⟨q, fs', xs, ys, bs, rfl, h2, no1, no2, m1, m2, pq, k⟩⟩⟩
theorem s_nePa {C : Addr} {p q : Addr} {fs fs' : List (Str × V)} {xs ys : List V} {bs : List Bool} {ns : List Str} {H : Hp} {Q : VK} {E : XK} (h1 : PaAt H p C fs) (h2 : PaAt H q C fs') (no1 : fs.lookup ("own_row" : Str) = none) (no2 : fs'.lookup ("own_row" : Str) = none)
    (m1 : ns.map (fun n => fs.lookup n) = xs.map some) (m2 : ns.map (fun n => fs'.lookup n) = ys.map some) (pq : PqAll K H xs ys bs) (k : ∀ H', Ex H H' → Q (.bl (!(bs.all id))) H') : rNeQ (rOwn C (spEqC K C ns) E) (.ref p) (.ref q) H Q := by
  obtain ⟨dx, g1⟩ := id h1
  obtain ⟨dx', g2⟩ := id h2
  exact ⟨p, dx, _, rfl, g1, .inl ⟨q, dx', _, rfl, g2⟩, p, .ref q, fs, rfl, h1, .inl ⟨q, fs', xs, ys, bs, rfl, h2, no1, no2, m1, m2, pq, fun H' e => ⟨_, rfl, k H' e⟩⟩⟩
theorem ok_law {f : Addr} {fd fdb : FuncData} {Tt : List (Addr × Str)} (F : Fun K "law" "law" s_law f fd) (T : Txt K mg cs CP CD fb) (c__law_pen : Fn P w K mg base CX0 1 "_law_pen" ["_law_script"] (spPen K))
    (c__law_value : Fn P w K mg base CX0 3 "_law_value" ["_law_pen_here"] (spValue Tt)) (c__law_made : Fn P w K mg base CX0 4 "_law_made" ["_law_first", "_law_second", "_law_third"] (spMade P w K mg base cs Tt))
    (hfb : PySem.W.isFn K (.ref fb) = true) (Gb : FnOk P w K mg base CX0 1 fb fdb ["self"] spNo) (bb : L2.Binds K fdb ["self"] [])
    (BE' : ∀ j, j < 27 → Me P w K mg base (cs.getD j 0) "__eq__" 2 ["self", "other"] (spEqC K (cs.getD j 0) (flds j)))
    (m_Fewest_1 : McO P w K mg base (L2.CX P w) 1 "Fewest" (cs.getD 0 0) ["self", "chunks"] (spInit (cs.getD 0 0) ["chunks"]) []) (m_NoList_1 : McO P w K mg base (L2.CX P w) 1 "NoList" (cs.getD 1 0) ["self", "rests"] (spInit (cs.getD 1 0) ["rests"]) []) (m_Least_3 : McO P w K mg base (L2.CX P w) 1 "Least" (cs.getD 3 0) ["self", "limit", "chunks", "below"] (spInit (cs.getD 3 0) ["limit", "chunks", "below"]) [])
    (m_Bound_2 : McO P w K mg base (L2.CX P w) 1 "Bound" (cs.getD 15 0) ["self", "late", "rest"] (spInit (cs.getD 15 0) ["late", "rest"]) []) (m_Beyond_2 : McO P w K mg base (L2.CX P w) 1 "Beyond" (cs.getD 18 0) ["self", "rest", "late"] (spInit (cs.getD 18 0) ["rest", "late"]) []) (m_Taking_4 : McO P w K mg base (L2.CX P w) 1 "Taking" (cs.getD 20 0) ["self", "worker", "at", "begun", "ended"] (spInit (cs.getD 20 0) ["worker", "at", "begun", "ended"]) []) :
    FnG P w K mg base CX0 6 f fd ["_law_script"] (spLaw K Tt) := by
  have FE : ∀ j, j < cs.length → CmpF K (cs.getD j 0) := fun j hj => T.cmp j (by rw [← T.len]; exact hj)
  have BE : ∀ j, j < cs.length → Me P w K mg base (cs.getD j 0) "__eq__" 2 ["self", "other"] ((fun j => spEqC K (cs.getD j 0) (flds j)) j) := fun j hj => BE' j (by rw [← T.len]; exact hj)
  refine funG F sc_law (fun vs H Q E h => ?_) (fun cd A fr s H vs Q E hr hg h => ?_)
  · obtain ⟨x, a, rfl, _⟩ := h; rfl
  · obtain ⟨a, ns, rfl, hs, hns, ht, k⟩ := h
    refine ⟨_, (pss_cons (ps_set (i := 1) sc_law.nd rfl (Or.inl rfl) (pe_f c__law_pen hr hg pass0 (pa_cons (pv 0) pa_nil)))
      (pss_cons (ps_for (passes_of rfl) rfl (pi_range1 (by rfl) T.b_range (pa_cons pe_int pa_nil)) (pg_name (i := 2) sc_law.nd rfl (Or.inl rfl)) (pss_cons (ps_par3 (by rfl) sc_law.nd (i := 3) (j := 4) (l := 5) rfl rfl rfl (by decide) (by decide) (by decide) rfl rfl rfl (pa_cons (pe_f c__law_value hr hg pass0 (pa_cons (pv 1) pa_nil)) (pa_cons (pe_f c__law_value hr hg pass0 (pa_cons (pv 1) pa_nil)) (pa_cons (pe_f c__law_value hr hg pass0 (pa_cons (pv 1) pa_nil)) pa_nil))) (by rfl))
      (pss_cons (ps_par (by rfl) sc_law.nd (i := 6) (j := 7) rfl rfl (by decide) rfl rfl (pa_cons (pe_f c__law_made hr hg pass0 (pa_cons (pv 3) (pa_cons (pv 4) (pa_cons (pv 5) pa_nil)))) (pa_cons (pe_f c__law_made hr hg pass0 (pa_cons (pv 3) (pa_cons (pv 4) (pa_cons (pv 5) pa_nil)))) pa_nil)) (by rfl))
      (pss_cons (ps_for (passes_of rfl) rfl (pi_range1 (by rfl) T.b_range (pa_cons (pe_callB (KX.callLen (K := K)) (by rfl) T.b_len (by decide +kernel) (pa_cons (pv 6) pa_nil)) pa_nil)) (pg_name (i := 8) sc_law.nd rfl (Or.inr rfl)) (pss_cons (ps_asg (pe_ix (KX.ixU (K := K)) (pv 6) (pv 8) (fun _ _ => rfl)) (KX.tup (K := K) rfl rfl (pgs_cons (pg_name (i := 9) sc_law.nd rfl (Or.inl rfl)) (pgs_cons (pg_name (i := 10) sc_law.nd rfl (Or.inl rfl)) (pgs_cons (pg_name (i := 11) sc_law.nd rfl (Or.inl rfl)) (pgs_cons (pg_name (i := 12) sc_law.nd rfl (Or.inl rfl)) pgs_nil))))))
      (pss_cons (ps_if (PW.pt (pw_or (pt_cmpR (KX.neU (K := K) rfl hr.units) (pe_callB (callReprL hg hr.units) (by rfl) T.b_repr (by decide +kernel) (pa_cons (KX.callF (P := P) (w := w) (K := K) (mg := mg) (base := base) (k := 1) hr (pv 10) (pa_cons (pv 9) pa_nil)) pa_nil)) (pe_callB (callReprL hg hr.units) (by rfl) T.b_repr (by decide +kernel) (pa_cons (pv 11) pa_nil)) (nomark _)) (pw_or (pt_not (pt_val (pe_callB (KX.callIsi (K := K)) (by rfl) T.b_isinstance (by decide +kernel) (pa_cons (pv 9) (pa_cons (C8.pe_gc (by rfl) T.g_Paper) pa_nil))))) (pw_or1 (pt_cmpR (KX.nq (K := K) rfl hr.units) (pe_callTy (KX.boolP (K := K) rfl hfb Gb bb hr) (by rfl) T.b_bool (by decide +kernel) (pa_cons (pv 9) pa_nil)) (pv 12) (nomark _)))))) (pss_one (ps_ret pe_bl)) pss_nil)
      (pss_one (ps_if (PW.pt (pw_or (pt_cmpR (KX.pq (K := K) rfl hr.units) (pe_callB (KX.callIsi (K := K)) (by rfl) T.b_isinstance (by decide +kernel) (pa_cons (pv 9) (pa_cons (C8.pe_gc (by rfl) T.g_Denial) pa_nil))) (pv 12) (nomark _)) (pw_or (pt_not (pt_cmpR (eqOwnL rfl FE BE hr passF) (pv 9) (pe_ix (KX.ixU (K := K)) (pe_ix (KX.ixU (K := K)) (pv 7) (pv 8) (fun _ _ => rfl)) pe_int (fun _ _ => rfl)) (nomark _))) (pw_or1 (pt_cmpR (eqOwnL rfl FE BE hr passF) (pv 9) (pv 11) (nomark _)))))) (pss_one (ps_ret pe_bl)) pss_nil)))))
      (pss_one (ps_for (passes_of rfl) rfl (pi_range2 (by rfl) T.b_range (pa_cons pe_int (pa_cons (pe_op op_sub (pe_callB (KX.callLen (K := K)) (by rfl) T.b_len (by decide +kernel) (pa_cons (pv 6) pa_nil)) pe_int) pa_nil))) (pg_name (i := 8) sc_law.nd rfl (Or.inr rfl)) (pss_cons (ps_setLc (i := 13) (own := [("_law_pair", 15)]) (g := gName 15) (by rfl) sc_law.nd rfl rfl (sw_true rfl rfl rfl (by decide +kernel)) (pi_list (pe_lst (pa_cons (pe_tup (pa_cons pe_int (pa_cons pe_int pa_nil))) (pa_cons (pe_tup (pa_cons pe_int (pa_cons pe_int pa_nil))) (pa_cons (pe_tup (pa_cons pe_int (pa_cons pe_int pa_nil))) pa_nil))))) (blkOk_by (own := [("_law_pair", 15)]) (N := names_law) (sc := defScope s_law) (by decide +kernel)) (fun _ _ _ _ _ => pg_name (i := 15) sc_law.nd rfl (Or.inl rfl)) (fun _ _ _ _ _ => pts_one (pt_cmpR (KX.eqU (K := K) rfl hr.units) (pv 8) (pe_ix (KX.ixU (K := K)) (pv 15) pe_int (fun _ _ => rfl)) (nomark _))) (fun _ _ _ _ _ => (pv 15)))
      (pss_one (ps_if (PW.pt (pw_and (pt_cmpR (KX.eqU (K := K) rfl hr.units) (pv 13) (pe_lst pa_nil) (nomark _)) (pw_and1 (pt_cmpR (eqOwnL rfl FE BE hr passF) (pe_ix (KX.ixU (K := K)) (pe_ix (KX.ixU (K := K)) (pv 6) (pv 8) (fun _ _ => rfl)) pe_int (fun _ _ => rfl)) (pe_ix (KX.ixU (K := K)) (pe_ix (KX.ixU (K := K)) (pv 6) (pe_op opAdd (pv 8) pe_int) (fun _ _ => rfl)) pe_int (fun _ _ => rfl)) (nomark _))))) (pss_one (ps_ret pe_bl)) pss_nil)))))))))
      (pss_cons (ps_set (i := 14) sc_law.nd rfl (Or.inl rfl) (pe_lst (pa_cons (pe_cmpR (eqOwnL rfl FE BE hr passF) (pe_mko m_Fewest_1 hr passF (pa_cons pe_int pa_nil)) (pe_mko m_Fewest_1 hr passF (pa_cons pe_int pa_nil)) (nomark _)) (pa_cons (pe_cmpR (eqOwnL rfl FE BE hr passF) (pe_mko m_Least_3 hr passF (pa_cons pe_int (pa_cons pe_int (pa_cons pe_int pa_nil)))) (pe_mko m_Least_3 hr passF (pa_cons pe_int (pa_cons pe_int (pa_cons pe_int pa_nil)))) (nomark _)) (pa_cons (pe_cmpR (eqOwnL rfl FE BE hr passF) (pe_mko m_Bound_2 hr passF (pa_cons pe_int (pa_cons pe_int pa_nil))) (pe_mko m_Beyond_2 hr passF (pa_cons pe_int (pa_cons pe_int pa_nil))) (nomark _)) pa_nil)))))
      (pss_cons (ps_expr (pe_bm PySem.F.plainAttrs_list PySem.F.slot_list_append PySem.F.type_list_append mt_append (pv 14) (pa_cons (pe_cmpR (neOwn (T.cmp 1 (by decide)) (BE' 1 (by decide)) hr passF) (pe_mko m_NoList_1 hr passF (pa_cons (pe_tup (pa_cons pe_int pa_nil)) pa_nil)) (pe_mko m_NoList_1 hr passF (pa_cons (pe_tup (pa_cons pe_int (pa_cons pe_int pa_nil))) pa_nil)) (nomark _)) pa_nil)))
      (pss_one (ps_ret (pe_and (pe_cmpR (KX.eqU (K := K) rfl hr.units) (pv 14) (pe_lst (pa_cons pe_bl (pa_cons pe_bl (pa_cons pe_bl (pa_cons pe_bl pa_nil))))) (nomark _)) (pe_one (pe_cmpR (neOwn (T.cmp 20 (by decide)) (BE' 20 (by decide)) hr passF) (pe_mko m_Taking_4 hr passF (pa_cons pe_str (pa_cons pe_int (pa_cons pe_int (pa_cons pe_int pa_nil))))) (pe_mko m_Taking_4 hr passF (pa_cons pe_str (pa_cons pe_int (pa_cons pe_int (pa_cons pe_int pa_nil))))) (nomark _)))))))))), ?_⟩
    tm_at "s"
    refine ⟨a, ns, rfl, hs, hns, fun p H1 hp e1 p1 => ?_⟩
    tm_at "s"
    refine ⟨4, rfl, by decide, by decide, for_range (lo := 0) (n := 4) (fun i σ H => (∃ v2 v3 v4 v5 v6 v7 v8 v9 v10 v11 v12 v13, σ = [some (.ref a), some (.ref p), v2, v3, v4, v5, v6, v7, v8, v9, v10, v11, v12, v13, none, none]) ∧ ∃ m, Wo Tt H p m ∧ m ≤ 3 * i) ⟨⟨_, _, _, _, _, _, _, _, _, _, _, _, rfl⟩, 0, ⟨p1, ht.ext e1⟩, by omega⟩ ?_ ?_⟩
    · rintro i _ H2 hi ⟨⟨v2, v3, v4, v5, v6, v7, v8, v9, v10, v11, v12, v13, rfl⟩, m, W2, hm⟩
      generalize hD : ({ nx := _, rt := _, bk := _, ct := _ } : Ends) = D
      have Dnx : ∀ σ H, (∃ v2 v3 v4 v5 v6 v7 v8 v9 v10 v11 v12 v13, σ = [some (.ref a), some (.ref p), v2, v3, v4, v5, v6, v7, v8, v9, v10, v11, v12, v13, none, none]) → (∃ m, Wo Tt H p m ∧ m ≤ 3 * (i + 1)) → D.nx σ H := fun σ H h1 h2 => by rw [← hD]; exact ⟨h1, h2⟩
      try dsimp only
      refine s_seq ?_
      tm_at "s"
      refine ⟨p, m, rfl, W2, by unfold lim; omega, fun x1 d1 H3 W3 k3 vd1 nx1 ok1 sh1 => ?_⟩
      tm_at "s"
      refine ⟨p, m + 1, rfl, W3, by unfold lim; omega, fun x2 d2 H4 W4 k4 vd2 nx2 ok2 sh2 => ?_⟩
      have vd1 : Vd H4 x1 d1 := vd1.map fun b o e h _ => k4 b o (fun z => nx1 (by rw [e, z])) h
      tm_at "s"
      refine ⟨p, m + 1 + 1, rfl, W4, by unfold lim; omega, fun x3 d3 H5 W5 k5 vd3' nx3 ok3 sh3 => ?_⟩
      have vd1 : Vd H5 x1 d1 := vd1.map fun b o e h _ => k5 b o (fun z => nx1 (by rw [e, z])) h
      have vd2 : Vd H5 x2 d2 := vd2.map fun b o e h _ => k5 b o (fun z => nx2 (by rw [e, z])) h
      tm_at "s"
      refine ⟨x1, x2, x3, rfl, W5.tabs, fun l H6 xs e6 t6 hl rows => ?_⟩
      tm_at "s"
      refine ⟨x1, x2, x3, rfl, t6, fun l2 H7 ys e7 t7 hl2 rows2 => ?_⟩
      tm_at "s"
      have hlen : xs.length = 30 := Paired.length rows
      have hlen2 : ys.length = 30 := Paired.length rows2
      have hl7 := e7 _ _ hl (fun _ z => nomatch z)
      have W7 := W5.exN (e6.trans e7) t7
      have w1 := vd1.exN (e6.trans e7)
      have w2 := vd2.exN (e6.trans e7)
      have w3 := vd3'.exN (e6.trans e7)
      have ixs : ∀ {zs : List V} {n : Nat} {x : V}, n < zs.length → zs[n]? = some x → atI zs (0 + (n : Int)) = some x := fun {zs n x} hn hx => by rw [Int.zero_add, atI_int (Int.natCast_nonneg _) (by omega), Int.toNat_natCast]; exact hx
      refine ⟨.ref l, rfl, .ref l, xs.length, rfl, .inl ⟨xs, .inl (.inl hl7), rfl⟩, 30, (by rw [hlen]; rfl), by decide, by decide, for_range (lo := 0) (n := 30) (fun n σ H => Ex H7 H ∧ ∃ v8 v9 v10 v11 v12 v13, σ = [some (.ref a), some (.ref p), some (.int (0 + (i : Int))), some x1, some x2, some x3, some (.ref l), some (.ref l2), v8, v9, v10, v11, v12, v13, none, none]) ⟨Ex.refl _, _, _, _, _, _, _, rfl⟩ ?_ ?_⟩
      · rintro n _ H8 hn ⟨e8, v8, v9, v10, v11, v12, v13, rfl⟩
        obtain ⟨x, r, hx, hr1, ra⟩ := paired_get rows n hn
        obtain ⟨y, r', hy, hr2, rb⟩ := paired_get rows2 n hn
        obtain rfl : r = r' := by rw [hr1] at hr2; exact Option.some.inj hr2
        have gd := good x1 x2 x3 r (List.mem_of_getElem? hr1)
        obtain ⟨t, e, fl, ld, rfl, ht8, ⟨dx, he⟩, lf, hld, nld⟩ := ra.exN hLm (e7.trans e8.n)
        obtain ⟨t', e', fl', ld', rfl, ht8', ⟨dx', he'⟩, _, _, _⟩ := rb.exN hLm e8.n
        have hlc : r.c < cs.length := by rw [T.len]; exact gd.c
        try dsimp only
        refine s_seq ?_
        tm_at "s"
        refine s_iL (e8 _ _ hl7) (ixs (by omega) hx) ?_
        refine s_gT ht8 rfl ?_
        tm_at "s"
        refine ⟨fl, _, rfl, lf, ?_⟩
        tm_at "s"
        refine ⟨_, rfl, lf, e, _, r.fs, r.vs, rfl, ⟨dx, he⟩, T.cl r.c gd.c, (fun g hg => T.fld r.c gd.c g (gd.gl g hg)), gd.hm, fun q9 H9 nq9 hq9 e9 h9 => ?_⟩
        obtain ⟨ds, hvd, hdl, hok⟩ := vd3 (w1.ex (e8.trans e9)) (w2.ex (e8.trans e9)) (w3.ex (e8.trans e9)) ok1 ok2 ok3 gd.vs
        have hds : ds.length ≤ 10 := by have := gd.ln; omega
        tm_at "s"
        refine s_reprL h9 nq9 hvd hok hds ?_
        tm_at "s"
        refine s_reprL (e9 _ _ hld) nld hvd hok hds ?_
        tm_at "s"
        refine iteND (fun z => absurd rfl z) (fun _ => ?_)
        tm_at "s"
        have he9 := e9 _ _ he
        refine s_isiC (T.ty gd.c he9) (T.kitP r.c gd.c) ?_
        tm_at "s"
        obtain ⟨bv, hbv, hbo⟩ : ∃ bv, bv = (!den r.c) ∧ ((bv = true ∧ PySem.W.findIn K (.ref (cs.getD r.c 0)) "__bool__" = some none ∧ PySem.W.findIn K (.ref (cs.getD r.c 0)) "__len__" = some none) ∨ (bv = false ∧ PySem.W.findIn K (.ref (cs.getD r.c 0)) "__bool__" = some (some (.ref fb)))) := by
          rcases T.bo r.c gd.c with ⟨h1, h2⟩ | ⟨h1, h2⟩
          · exact ⟨true, by rw [h1]; rfl, .inl ⟨rfl, h2⟩⟩
          · exact ⟨false, by rw [h1]; rfl, .inr ⟨rfl, h2⟩⟩
        have hB : r.B = .bl bv ∨ (bv = true ∧ r.B = .int 1) := by
          rcases gd.B with h | ⟨h1, h2⟩
          · exact .inl (by rw [h, hbv])
          · exact .inr ⟨by rw [hbv, h1]; rfl, h2⟩
        refine ⟨e, _, dx, _, bv, rfl, he9, hbo, ?_⟩
        tm_at "s"
        refine ⟨true, pqB hB, ?_⟩
        tm_at "s"
        refine s_isiC (T.ty gd.c he9) (T.kitD r.c gd.c) ?_
        tm_at "s"
        refine ⟨false, ?_, ?_⟩
        · have z := pqN (K := K) (H := H9) hB
          rw [hbv, Bool.not_not] at z
          exact z
        tm_at "s"
        refine s_iL ((e8.trans e9) _ _ hl2) (ixs (by omega) hy) ?_
        tm_at "s"
        refine s_iT (e9 _ _ ht8') rfl ?_
        obtain ⟨zs, hzs, hfv⟩ := gd.fx
        obtain ⟨bs, hpq, hall⟩ := pqAll_same (K := K) (H := H9) fun x hx => pqFv (w1.ex (e8.trans e9)) (w2.ex (e8.trans e9)) (w3.ex (e8.trans e9)) sh1 sh2 sh3 (hfv x hx)
        refine ⟨r.c, hlc, e, dx, _, rfl, he9, .inl (.inl (.inl ⟨e', dx', _, rfl, e9 _ _ he'⟩)), e, .ref e', r.fs, rfl, ⟨dx, he9⟩, .inl ⟨e', r.fs, zs, zs, bs, rfl, ⟨dx', e9 _ _ he'⟩, gd.ow, gd.ow, hzs, hzs, hpq, fun H10 e10 => ?_⟩⟩
        rw [hall]
        tm_at "s"
        have he10 := e10 _ _ he9
        have hld10 := e10 _ _ (e9 _ _ hld)
        refine ⟨r.c, hlc, e, dx, _, rfl, he10, .inr ⟨ld, _, rfl, hld10⟩, e, .ref ld, r.fs, rfl, ⟨dx, he10⟩, .inr ⟨.type "list", .x (.base (.lst hld10)), T.kitLs r.c gd.c, fun H11 e11 => ?_⟩⟩
        tm_at "s"
        exact ⟨((e8.trans e9).trans e10).trans e11, _, _, _, _, _, _, rfl⟩
      · rintro _ H8 ⟨e8, v8, v9, v10, v11, v12, v13, rfl⟩
        try dsimp only
        refine ⟨.ref l, rfl, .ref l, xs.length, rfl, .inl ⟨xs, .inl (.inl (e8 _ _ hl7)), rfl⟩, _, _, rfl, rfl, 0, 29, (by rw [hlen]; rfl), by decide, for_range (lo := 0) (n := 29) (fun n σ H => Ex H7 H ∧ ∃ v8 v9 v10 v11 v12 v13, σ = [some (.ref a), some (.ref p), some (.int (0 + (i : Int))), some x1, some x2, some x3, some (.ref l), some (.ref l2), v8, v9, v10, v11, v12, v13, none, none]) ⟨e8, _, _, _, _, _, _, rfl⟩ ?_ ?_⟩
        · rintro n _ H9 hn ⟨e9, v8, v9, v10, v11, v12, v13, rfl⟩
          try dsimp only
          refine s_seq ?_
          tm_at "s"
          refine s_new (Nat.le_of_lt (small1000 (by simp))) fun t1 G1 nt1 f1 g1 => ?_
          tm_at "s"
          refine s_new (Nat.le_of_lt (small1000 (by simp))) fun t2 G2 nt2 f2 g2 => ?_
          tm_at "s"
          refine s_new (Nat.le_of_lt (small1000 (by simp))) fun t3 G3 nt3 f3 g3 => ?_
          tm_at "s"
          refine s_new (Nat.le_of_lt (small1000 (by simp))) fun tl G4 nt4 f4 g4 => ?_
          have g1 := f4 _ _ (f3 _ _ (f2 _ _ g1))
          have g2 := f4 _ _ (f3 _ _ g2)
          have g3 := f4 _ _ g3
          have F4 := (((e9.trans f1).trans f2).trans f3).trans f4
          have hit : ∀ (i : Nat) (x : V), [V.ref t1, V.ref t2, V.ref t3][i]? = some x → ∃ t j j', x = .ref t ∧ G4 t = some (.tup [.int j, .int j']) ∧ j = (([3, 26, 28].getD i 0 : Nat) : Int) := by
            intro i x hx
            match i, hx with
            | 0, hx => cases hx; exact ⟨t1, 3, 4, rfl, g1, rfl⟩
            | 1, hx => cases hx; exact ⟨t2, 26, 27, rfl, g2, rfl⟩
            | 2, hx => cases hx; exact ⟨t3, 28, 29, rfl, g3, rfl⟩
          refine ⟨tl, rfl, ⟨_, .inl (.inl g4)⟩, lcFL (fun i => decide (n = [3, 26, 28].getD i 0)) g4 (small1000 (by simp)) (fun _ => rfl) (fun i x G5 R hx f5 r => ?_) (fun x G5 R r => ?_) fun tw G6 nw f6 g6 => ?_⟩
          · obtain ⟨t, j, j', rfl, gt, hj⟩ := hit i x hx
            tm_at "s"
            refine s_iT (f5 _ _ gt) rfl ?_
            tm_at "s"
            rw [show decide ((0 : Int) + (n : Int) = j) = decide (n = [3, 26, 28].getD i 0) by rw [hj]; exact decide_eq_decide.mpr ⟨fun h => by omega, fun h => by omega⟩]
            exact r
          · tm_at "s"
            exact r
          have F6 := F4.trans f6
          have twc : ((∃ t j j', G6 tw = some (.lst [.ref t]) ∧ G6 t = some (.tup [.int j, .int j'])) ∨ (n ≠ 3 ∧ n ≠ 26 ∧ n ≠ 28 ∧ G6 tw = some (.lst []))) := by
            by_cases h3 : n = 3
            · subst h3; exact .inl ⟨t1, _, _, g6, f6 _ _ g1⟩
            by_cases h26 : n = 26
            · subst h26; exact .inl ⟨t2, _, _, g6, f6 _ _ g2⟩
            by_cases h28 : n = 28
            · subst h28; exact .inl ⟨t3, _, _, g6, f6 _ _ g3⟩
            refine .inr ⟨h3, h26, h28, ?_⟩
            have : (List.range [V.ref t1, V.ref t2, V.ref t3].length).filter (fun i => decide (n = [3, 26, 28].getD i 0)) = [] := by
              show (List.range 3).filter _ = []
              rw [show List.range 3 = [0, 1, 2] from rfl]
              simp [h3, h26, h28]
            rw [g6, this]; rfl
          try dsimp only
          tm_at "s"
          refine s_new (Nat.le_of_lt (small1000 (by simp))) fun t7 G7 nt7 f7 g7 => ?_
          have F7 := F6.trans f7
          rcases twc with ⟨t, j, j', gw, gt⟩ | ⟨h3, h26, h28, gw⟩
          · refine .inr (s_eqD (.lst (.inl (.inl (f7 _ _ gw))) (.cons (.tup (.inl (.inl (f7 _ _ gt))) (.cons (.int j) (.cons (.int j') .nil))) .nil)) (.lst (.inl (.inl g7)) .nil) rfl rfl ?_)
            tm_at "s"
            exact ⟨F7, _, _, _, _, _, _, rfl⟩
          · refine .inr (s_eqD (.lst (.inl (.inl (f7 _ _ gw))) .nil) (.lst (.inl (.inl g7)) .nil) rfl rfl ?_)
            rw [show PyData.eqv (.list []) (.list []) = true from rfl]
            tm_at "s"
            obtain ⟨x, r, hx, hr1, ra⟩ := paired_get rows n (show n < 30 by omega)
            obtain ⟨y, r', hy, hr2, rb⟩ := paired_get rows (n + 1) (show n + 1 < 30 by omega)
            obtain ⟨t, e, fl, ld, rfl, ht8, ⟨dx, he⟩, _⟩ := ra.exN hLm (e7.trans F7.n)
            obtain ⟨t', e', fl', ld', rfl, ht8', ⟨dx', he'⟩, _⟩ := rb.exN hLm (e7.trans F7.n)
            have gd := good x1 x2 x3 r (List.mem_of_getElem? hr1)
            have gd' := good x1 x2 x3 r' (List.mem_of_getElem? hr2)
            have hcc : r.c ≠ r'.c := by
              have h1 : clsT[n]? = some r.c := by rw [← cls_of x1 x2 x3, List.getElem?_map, hr1]; rfl
              have h2 : clsT[n + 1]? = some r'.c := by rw [← cls_of x1 x2 x3, List.getElem?_map, hr2]; rfl
              have := cls_ne n hn h3 h26 h28
              rw [List.getD_eq_getElem?_getD, List.getD_eq_getElem?_getD, h1, h2] at this
              exact this
            refine s_iL (F7 _ _ hl7) (ixs (by omega) hx) ?_
            tm_at "s"
            refine s_iT ht8 rfl ?_
            tm_at "s"
            refine s_iL (F7 _ _ hl7) (i := 0 + (n : Int) + 1) (by rw [Int.add_assoc]; exact ixs (n := n + 1) (by omega) hy) ?_
            tm_at "s"
            refine s_iT ht8' rfl ?_
            refine ⟨r.c, by rw [T.len]; exact gd.c, e, dx, _, rfl, he, .inl (.inr ⟨_, e', dx', _, rfl, he', T.nf r.c r'.c gd.c gd'.c⟩), e, .ref e', r.fs, rfl, ⟨dx, he⟩, .inr ⟨_, T.ty gd'.c he', by rw [T.kit _ _ gd'.c gd.c, decide_eq_false hcc.symm], fun G8 f8 => ?_⟩⟩
            tm_at "s"
            exact ⟨F7.trans f8, _, _, _, _, _, _, rfl⟩
        · rintro _ H9 ⟨e9, v8, v9, v10, v11, v12, v13, rfl⟩
          exact Dnx _ _ ⟨_, _, _, _, _, _, _, _, _, _, _, _, rfl⟩ ⟨_, W7.ex e9, by omega⟩
    · rintro _ H2 ⟨⟨v2, v3, v4, v5, v6, v7, v8, v9, v10, v11, v12, v13, rfl⟩, m, W2, hm⟩
      try dsimp only
      refine s_seq ?_
      tm_at "s"
      refine s_mkP rfl fun q1 G1 n1 f1 pa1 => ?_
      tm_at "s"
      refine s_mkP rfl fun q2 G2 n2 f2 pa2 => ?_
      refine s_eqPa (j := 0) rfl (by rw [T.len]; decide) (pa1.ex f2) pa2 rfl rfl (xs := [.int 1]) (ys := [.int 2]) rfl rfl (.cons (pqInt 1 2) .nil) fun G3 f3 => ?_
      tm_at "s"
      refine s_mkP rfl fun q4 G4 n4 f4 pa4 => ?_
      tm_at "s"
      refine s_mkP rfl fun q5 G5 n5 f5 pa5 => ?_
      refine s_eqPa (j := 3) rfl (by rw [T.len]; decide) (pa4.ex f5) pa5 rfl rfl (xs := [.int 1, .int 2, .int 3]) (ys := [.int 1, .int 2, .int 4]) rfl rfl (.cons (pqInt _ _) (.cons (pqInt _ _) (.cons (pqInt _ _) .nil))) fun G6 f6 => ?_
      tm_at "s"
      refine s_mkP rfl fun q7 G7 n7 f7 pa7 => ?_
      tm_at "s"
      refine s_mkP rfl fun q8 G8 n8 f8 pa8 => ?_
      obtain ⟨d7, i7⟩ := id (pa7.ex f8)
      obtain ⟨d8, i8⟩ := id pa8
      refine ⟨15, by rw [T.len]; decide, q7, d7, _, rfl, i7, .inl (.inr ⟨_, q8, d8, _, rfl, i8, T.nf 15 18 (by decide) (by decide)⟩), q7, .ref q8, _, rfl, ⟨d7, i7⟩, .inr ⟨_, T.ty (j := 18) (by decide) i8, by rw [T.kit 18 15 (by decide) (by decide)]; rfl, fun G9 f9 => ?_⟩⟩
      tm_at "s"
      refine s_new (Nat.le_of_lt (small1000 (by simp))) fun tt G10 n10 f10 g10 => ?_
      try dsimp only
      refine s_seq ?_
      tm_at "s"
      refine s_tyL g10 ?_
      tm_at "s"
      refine s_new (Nat.le_of_lt (small1000 (by simp))) fun u1 G11 n11 f11 g11 => ?_
      tm_at "s"
      refine s_mkP rfl fun q12 G12 n12 f12 pa12 => ?_
      tm_at "s"
      refine s_new (Nat.le_of_lt (small1000 (by simp))) fun u2 G13 n13 f13 g13 => ?_
      tm_at "s"
      refine s_mkP rfl fun q14 G14 n14 f14 pa14 => ?_
      refine s_nePa (pa12.ex (f13.trans f14)) pa14 rfl rfl (xs := [.ref u1]) (ys := [.ref u2]) rfl rfl (.cons (.dat (d := .tuple [.int 1]) (e := .tuple [.int 1, .int 1]) (.tup (.inl (.inl ((f12.trans (f13.trans f14)) _ _ g11))) (.cons (.int 1) .nil)) (.tup (.inl (.inl (f14 _ _ g13))) (.cons (.int 1) (.cons (.int 1) .nil))) rfl rfl) .nil) fun G15 f15 => ?_
      tm_at "s"
      refine s_app ((f11.trans (f12.trans (f13.trans (f14.trans f15)))) _ _ g10) (small1000 (by simp)) ?_
      generalize hG : upd G15 tt _ = G16
      have g16 : G16 tt = some (.lst [.bl false, .bl false, .bl false, .bl true]) := by rw [← hG, upd_same]; rfl
      try dsimp only
      tm_at "s"
      refine s_new (Nat.le_of_lt (small1000 (by simp))) fun u3 G17 n17 f17 g17 => ?_
      refine .inr (s_eqD (.lst (.inl (.inl (f17 _ _ g16))) (.cons (.bl _) (.cons (.bl _) (.cons (.bl _) (.cons (.bl _) .nil))))) (.lst (.inl (.inl g17)) (.cons (.bl _) (.cons (.bl _) (.cons (.bl _) (.cons (.bl _) .nil))))) rfl rfl ?_)
      rw [SeqAt.eqv_refl _ rfl]
      tm_at "s"
      refine s_mkP rfl fun q18 G18 n18 f18 pa18 => ?_
      tm_at "s"
      refine s_mkP rfl fun q19 G19 n19 f19 pa19 => ?_
      refine s_nePa (pa18.ex f19) pa19 rfl rfl (xs := [.str "a", .int 0, .int 1, .int 2]) (ys := [.str "a", .int 0, .int 1, .int 3]) rfl rfl (.cons (b := true) (by have := Pq.dat (K := K) (H := G19) (.str "a") (.str "a") (by decide +kernel) (by decide +kernel); rw [SeqAt.eqv_refl _ (by decide +kernel)] at this; exact this) (.cons (pqInt _ _) (.cons (pqInt _ _) (.cons (pqInt _ _) .nil)))) fun G20 f20 => ?_
      exact k _
end
end K03
end
section
local macro_rules | `(tactic| tm_at "s1") => `(tactic| first
  | with_reducible first
    | refine L3.s_seq ?_ | refine L3.s_asg ?_ | refine L3.s_op ?_ | refine L3.s_c ?_ | refine L3.s_cb ?_ | refine L3.s_cons ?_ | refine L3.s_nil ?_ | refine L3.s_test ?_ | refine L3.s_bl ?_
    | refine L3.s_I0 ?_ | refine L3.s_and ?_ | refine L3.s_or ?_ | refine L3.s_not ?_ | refine L3.s_if ?_ | refine L3.s_next ?_ | refine L3.s_ret ?_ | refine L3.s_retN ?_ | refine L3.s_asgS ?_ | refine L3.s_drop ?_
    | refine L3.s_un ?_ | refine L3.s_U ?_ | refine L3.s_int ?_ | refine L3.s_intB ?_ | refine L3.s_abs ?_ | refine L3.s_andV ?_ | refine L3.s_orV ?_ | refine L3.s_notV ?_ | refine L3.s_ifE ?_ | refine L3.s_call ?_ | refine L3.s_lst ?_ | refine L3.s_tup ?_ | refine L3.s_tB ?_
    | refine L3.s_addI ?_ | refine L3.s_inS ?_ | refine L3.s_ninS ?_ | refine L3.s_slice ?_ | refine L3.s_part ?_ | refine L3.s_partI ?_ | refine L3.s_nopart ?_ | refine L3.s_cI ?_ | refine L3.s_cB ?_ | refine L3.s_chain ?_ | refine L3.s_bm ?_ | refine L3.s_lcS ?_ | refine L3.s_lcR ?_ | refine L3.s_strE ?_
    | refine L2.iteT ?_ | refine L2.iteF ?_ | refine L3.iteNF ?_ | refine L3.iteNT ?_
    | refine L3.s_eqI ?_ | refine L3.s_neI ?_ | refine L3.s_eqS ?_ | refine L3.s_neS ?_
    | refine L3.s_pair ?_ | refine L3.s_pair2 ?_ | refine L3.s_fld ?_ | refine L3.s_make ?_ | refine L3.s_m1 ?_ | refine L3.s_isstr ?_
    | refine L3.s_xfV ?_ | refine L3.s_lstN ?_ | refine L3.s_callF ?_ | refine L3.s_lcL ?_ | refine L3.s_par3 ?_ | refine L3.s_trip ?_ | refine L3.s_asgT' ?_ | refine L3.s_gC ?_ | refine L3.s_gN ?_ | refine L3.s_fldG ?_ | refine L3.s_raise1 ?_
    | refine L3.s_isN ?_ | refine L3.s_isB ?_ | refine L3.s_nisN ?_ | refine L3.s_nisB ?_
  | ((with_reducible refine' L3.s_var ?e ?_); (case e => rfl))
  | ((with_reducible refine' L3.s_aug ?e ?_); (case e => rfl))
  | ((with_reducible refine' L3.s_pow ?c ?_); (case c => exact ⟨by decide, by decide, by decide⟩)))
local macro_rules | `(tactic| tm_at "s") => `(tactic| repeat tm_at "s1")
namespace K03
open PySem PySem.Spec PyProof.Rows L2 L3 LamX
abbrev s_Denial___bool__ : Stmt := inClass (topS 2) 0
abbrev names_Denial___bool__ : List Str := ["self"]
theorem sc_Denial___bool__ : FnScope ["self"] ["self"] (defScope s_Denial___bool__) := ⟨rfl, rfl, rfl, by decide +kernel, rfl, by decide +kernel, by decide +kernel⟩
theorem ok_bool {P : Program} {w : World} {K : PySem.W.Frag} {mg : Str → Option Value} {base : Heap} {f : Addr} {fd : FuncData} (F : Fun K "__bool__" "Denial.__bool__" s_Denial___bool__ f fd) : FnOk P w K mg base CX0 1 f fd ["self"] spNo := by
  refine funO F sc_Denial___bool__ (fun vs H Q E h => ?_) (fun cd A fr s H vs Q E hr h => ?_)
  · obtain ⟨p, rfl, _⟩ := h; rfl
  · obtain ⟨p, rfl, k⟩ := h
    refine ⟨_, (pss_one (ps_ret pe_bl)), ?_⟩
    tm_at "s"
    exact k
theorem kbnQ {K : PySem.W.Frag} {x qual : Str} {st : Stmt} {f : Addr} {fd : FuncData} {ps : List Str} (F : Fun K x qual st f fd) (n : Nat) (ks : List Str) (ix : List Nat)
    (h : ∀ (kV doc pm : Value) (an : Option Addr) (cdv ct : Value) (us ws : List Value), us.length = n + 1 → ws.length = ks.length → bindArgs (PySem.W.fnOf x qual (defArgs st) (defBody st) (defScope st) .none kV doc pm an cdv ct) ⟨us, ks.zip ws⟩ = pure (ps.zip (permG ix us ws))) :
    KBn K fd ps (n + 1) ks (permG ix) (permG ix) := by
  obtain ⟨oc, od, kV, doc, pm, an, cd, ct, sl, rfl, lk, hcd⟩ := F.ex
  exact ⟨fun s us ws hK h1 h2 => .of_eq (h kV doc pm an cd ct us ws h1 h2), fun a b => permG_rel ix a b⟩
/-- what the written part says of a paper's class -/
def clB (K : PySem.W.Frag) (C : Addr) : Bool := PySem.W.plainGet K C Str.empty && (PySem.W.hasDictIn K C && (PySem.W.plainOver K C && decide (PySem.W.findIn K (.ref C) "__setattr__" = some (some (.builtin "object.__setattr__")))))
theorem clB_ok {K : PySem.W.Frag} {C : Addr} (h : clB K C = true) : Cls K C := by
  unfold clB at h
  simp only [Bool.and_eq_true, decide_eq_true_eq] at h
  exact ⟨h.1, h.2.1, h.2.2.1, h.2.2.2⟩
def tyB (K : PySem.W.Frag) (C : Addr) : Bool := decide (PySem.W.findIn K (.ref C) "__class__" = some (some (.builtin "object.__class__"))) && decide (PySem.W.mroIn K C (.type "object") = some true)
theorem tyB_ok {K : PySem.W.Frag} {C : Addr} (h : tyB K C = true) : PySem.W.findIn K (.ref C) "__class__" = some (some (.builtin "object.__class__")) ∧ PySem.W.mroIn K C (.type "object") = some true := by
  unfold tyB at h
  simp only [Bool.and_eq_true, decide_eq_true_eq] at h
  exact h
def cmB (K : PySem.W.Frag) (C : Addr) : Bool := (numTys.all fun T => PySem.W.notFirst K C (.type T)) && (PySem.W.notFirst K C (.ref C) && ((numTys.all fun T => decide (PySem.W.subIn K (.ref C) (.type T) = some false)) && (decide (PySem.W.mroIn K C (.type "object") = some true) && decide (PySem.W.findIn K (.ref C) "__ne__" = some (some (.builtin "object.__ne__"))))))
theorem cmB_ok {K : PySem.W.Frag} {C : Addr} (h : cmB K C = true) : CmpF K C := by
  unfold cmB at h
  simp only [Bool.and_eq_true, decide_eq_true_eq] at h
  exact ⟨h.1, h.2.1, h.2.2.1, h.2.2.2.1, h.2.2.2.2⟩
def boB (K : PySem.W.Frag) (fb C : Addr) (d : Bool) : Bool := if d then decide (PySem.W.findIn K (.ref C) "__bool__" = some (some (.ref fb))) else (decide (PySem.W.findIn K (.ref C) "__bool__" = some none) && decide (PySem.W.findIn K (.ref C) "__len__" = some none))
theorem boB_ok {K : PySem.W.Frag} {fb C : Addr} {d : Bool} (h : boB K fb C d = true) : (d = false ∧ PySem.W.findIn K (.ref C) "__bool__" = some none ∧ PySem.W.findIn K (.ref C) "__len__" = some none) ∨ (d = true ∧ PySem.W.findIn K (.ref C) "__bool__" = some (some (.ref fb))) := by
  unfold boB at h
  cases d with
  | true => exact .inr ⟨rfl, of_decide_eq_true h⟩
  | false =>
    simp only [Bool.false_eq_true, if_false, Bool.and_eq_true, decide_eq_true_eq] at h
    exact .inl ⟨rfl, h⟩
end K03
end
section
namespace K03
open PySem PySem.Spec PyProof.Rows L2 L3 LamX
theorem fnMk {P : Program} {w : World} {K : PySem.W.Frag} {mg : Str → Option Value} {base : Heap} {CX : CXT} {k : Nat} {x qual : Str} {st : Stmt} {f : Addr} {fd : FuncData} {ps : List Str} {sp : Sp} (F : Fun K x qual st f fd) (ok : FnG P w K mg base CX k f fd ps sp) (m : mg x = some (.ref f))
    (hb : ∀ (kV doc pm : Value) (an : Option Addr) (cdv ct : Value) (us : List Value), us.length = ps.length → bindArgs (PySem.W.fnOf x qual (defArgs st) (defBody st) (defScope st) .none kV doc pm an cdv ct) ⟨us, []⟩ = pure (ps.zip us))
    (hk : ∀ (kV doc pm : Value) (an : Option Addr) (cdv ct : Value) (us : List Value), us.length = ps.length → bindArgs (PySem.W.fnOf x qual (defArgs st) (defBody st) (defScope st) .none kV doc pm an cdv ct) ⟨[], ps.zip us⟩ = pure (ps.zip us)) : Fn P w K mg base CX k x ps sp := by
  have kp := F.kp
  obtain ⟨oc, od, kV, doc, pm, an, cd, ct, sl, rfl, lk, hcd⟩ := F.ex
  exact ⟨⟨f, _, ok, m, kp, .all (hb kV doc pm an cd ct), fun s ws _ hl => .of_eq (hk kV doc pm an cd ct ws hl)⟩⟩
theorem bMk {K : PySem.W.Frag} {x qual : Str} {st : Stmt} {f : Addr} {fd : FuncData} {ps : List Str} (F : Fun K x qual st f fd)
    (hb : ∀ (kV doc pm : Value) (an : Option Addr) (cdv ct : Value) (us : List Value), us.length = ps.length → bindArgs (PySem.W.fnOf x qual (defArgs st) (defBody st) (defScope st) .none kV doc pm an cdv ct) ⟨us, []⟩ = pure (ps.zip us)) : L2.Binds K fd ps [] := by
  obtain ⟨oc, od, kV, doc, pm, an, cd, ct, sl, rfl, lk, hcd⟩ := F.ex
  exact .all (hb kV doc pm an cd ct)
theorem bkMk {K : PySem.W.Frag} {x qual : Str} {st : Stmt} {f : Addr} {fd : FuncData} {ps : List Str} (F : Fun K x qual st f fd)
    (hk : ∀ (kV doc pm : Value) (an : Option Addr) (cdv ct : Value) (us : List Value), us.length = ps.length → bindArgs (PySem.W.fnOf x qual (defArgs st) (defBody st) (defScope st) .none kV doc pm an cdv ct) ⟨[], ps.zip us⟩ = pure (ps.zip us)) : ∀ (s : Shared) (ws : List Value), K.In s.heap → ws.length = ps.length → BindsTo s fd ⟨[], ps.zip ws⟩ (ps.zip ws) := by
  obtain ⟨oc, od, kV, doc, pm, an, cd, ct, sl, rfl, lk, hcd⟩ := F.ex
  exact fun s ws _ hl => .of_eq (hk kV doc pm an cd ct ws hl)
theorem bcMk {K : PySem.W.Frag} {x qual : Str} {st : Stmt} {f : Addr} {fd : FuncData} {c : Str} {ps : List Str} {C : Addr} (F : Fun K x qual st f fd)
    (hk : ∀ (kV doc pm : Value) (an : Option Addr) (cdv ct : Value) (us : List Value), us.length = ps.length → bindArgs (PySem.W.fnOf x qual (defArgs st) (defBody st) (defScope st) .none kV doc pm an cdv ct) ⟨[.ref C], ps.zip us⟩ = pure ((c :: ps).zip (.ref C :: us))) : ∀ (s : Shared) (ws : List Value), K.In s.heap → ws.length = ps.length → BindsTo s fd ⟨[.ref C], ps.zip ws⟩ ((c :: ps).zip (.ref C :: ws)) := by
  obtain ⟨oc, od, kV, doc, pm, an, cd, ct, sl, rfl, lk, hcd⟩ := F.ex
  exact fun s ws _ hl => .of_eq (hk kV doc pm an cd ct ws hl)
theorem tab0 {H : Hp} {Pt : Addr} {q : Str} (h : H Pt = some (.tbl #[])) : TabS H Pt q := ⟨#[], h, trivial, fun pos cv hc => nomatch hc⟩
theorem tt_uniq : ∀ {ps : List (Addr × Str)} (h : (ps.map (·.1)).Nodup) {p q : Addr × Str} (hp : p ∈ ps) (hq : q ∈ ps) (e : p.1 = q.1), p.2 = q.2
  | [], _, _, _, hp, _, _ => nomatch hp
  | a :: r, h, p, q, hp, hq, e => by
    rw [List.map_cons, List.nodup_cons] at h
    rcases List.mem_cons.mp hp with e1 | hp1
    · rcases List.mem_cons.mp hq with e2 | hq1
      · rw [e1, e2]
      · exact (h.1 (List.mem_map.mpr ⟨q, hq1, by rw [← e1, e]⟩)).elim
    · rcases List.mem_cons.mp hq with e2 | hq1
      · exact (h.1 (List.mem_map.mpr ⟨p, hp1, by rw [← e2, e]⟩)).elim
      · exact tt_uniq h.2 hp1 hq1 e
theorem all_mk {l : PySem.W.OpenLaw} {w : World} {K : PySem.W.Frag} {h : Heap} {mg : Str → Option Value} {fa C0 C1 C2 C3 C4 C5 C6 C7 C8 C9 C10 C11 C12 C13 C14 C15 C16 C17 C18 C19 C20 C21 C22 C23 C24 C25 C26 CP CD ct0 Pt : Addr} (X : K.In h) (G : h.Ns mainGlobals mg) (hfa : mg "law" = some (.ref fa))
    {f1 : Addr} {od1 an1 : Option Addr} {sl1 : Array (Option Value)} {oc1 kV1 dc1 pm1 cd1 ct1 : Value}
    {f2 : Addr} {od2 an2 : Option Addr} {sl2 : Array (Option Value)} {oc2 kV2 dc2 pm2 cd2 ct2 : Value}
    {f3 : Addr} {od3 an3 : Option Addr} {sl3 : Array (Option Value)} {oc3 kV3 dc3 pm3 cd3 ct3 : Value}
    {f4 : Addr} {od4 an4 : Option Addr} {sl4 : Array (Option Value)} {oc4 kV4 dc4 pm4 cd4 ct4 : Value}
    {f5 : Addr} {od5 an5 : Option Addr} {sl5 : Array (Option Value)} {oc5 kV5 dc5 pm5 ct5 : Value}
    {f6 : Addr} {od6 an6 : Option Addr} {sl6 : Array (Option Value)} {oc6 kV6 dc6 pm6 cd6 ct6 : Value}
    {g_CD___bool__ : Addr} {od_CD___bool__ an_CD___bool__ : Option Addr} {sl_CD___bool__ : Array (Option Value)} {oc_CD___bool__ kV_CD___bool__ dc_CD___bool__ pm_CD___bool__ cd_CD___bool__ ct_CD___bool__ : Value}
    {g_C0___init__ : Addr} {od_C0___init__ an_C0___init__ : Option Addr} {sl_C0___init__ : Array (Option Value)} {oc_C0___init__ kV_C0___init__ dc_C0___init__ pm_C0___init__ cd_C0___init__ ct_C0___init__ : Value}
    {g_C0___eq__ : Addr} {od_C0___eq__ an_C0___eq__ : Option Addr} {sl_C0___eq__ : Array (Option Value)} {oc_C0___eq__ kV_C0___eq__ dc_C0___eq__ pm_C0___eq__ cd_C0___eq__ ct_C0___eq__ : Value}
    {g_C1___init__ : Addr} {od_C1___init__ an_C1___init__ : Option Addr} {sl_C1___init__ : Array (Option Value)} {oc_C1___init__ kV_C1___init__ dc_C1___init__ pm_C1___init__ cd_C1___init__ ct_C1___init__ : Value}
    {g_C1___eq__ : Addr} {od_C1___eq__ an_C1___eq__ : Option Addr} {sl_C1___eq__ : Array (Option Value)} {oc_C1___eq__ kV_C1___eq__ dc_C1___eq__ pm_C1___eq__ cd_C1___eq__ ct_C1___eq__ : Value}
    {g_C2___init__ : Addr} {od_C2___init__ an_C2___init__ : Option Addr} {sl_C2___init__ : Array (Option Value)} {oc_C2___init__ kV_C2___init__ dc_C2___init__ pm_C2___init__ cd_C2___init__ ct_C2___init__ : Value}
    {g_C2___eq__ : Addr} {od_C2___eq__ an_C2___eq__ : Option Addr} {sl_C2___eq__ : Array (Option Value)} {oc_C2___eq__ kV_C2___eq__ dc_C2___eq__ pm_C2___eq__ cd_C2___eq__ ct_C2___eq__ : Value}
    {g_C3___init__ : Addr} {od_C3___init__ an_C3___init__ : Option Addr} {sl_C3___init__ : Array (Option Value)} {oc_C3___init__ kV_C3___init__ dc_C3___init__ pm_C3___init__ cd_C3___init__ ct_C3___init__ : Value}
    {g_C3___eq__ : Addr} {od_C3___eq__ an_C3___eq__ : Option Addr} {sl_C3___eq__ : Array (Option Value)} {oc_C3___eq__ kV_C3___eq__ dc_C3___eq__ pm_C3___eq__ cd_C3___eq__ ct_C3___eq__ : Value}
    {g_C4___init__ : Addr} {od_C4___init__ an_C4___init__ : Option Addr} {sl_C4___init__ : Array (Option Value)} {oc_C4___init__ kV_C4___init__ dc_C4___init__ pm_C4___init__ cd_C4___init__ ct_C4___init__ : Value}
    {g_C4___eq__ : Addr} {od_C4___eq__ an_C4___eq__ : Option Addr} {sl_C4___eq__ : Array (Option Value)} {oc_C4___eq__ kV_C4___eq__ dc_C4___eq__ pm_C4___eq__ cd_C4___eq__ ct_C4___eq__ : Value}
    {g_C5___init__ : Addr} {od_C5___init__ an_C5___init__ : Option Addr} {sl_C5___init__ : Array (Option Value)} {oc_C5___init__ kV_C5___init__ dc_C5___init__ pm_C5___init__ cd_C5___init__ ct_C5___init__ : Value}
    {g_C5___eq__ : Addr} {od_C5___eq__ an_C5___eq__ : Option Addr} {sl_C5___eq__ : Array (Option Value)} {oc_C5___eq__ kV_C5___eq__ dc_C5___eq__ pm_C5___eq__ cd_C5___eq__ ct_C5___eq__ : Value}
    {g_C6___init__ : Addr} {od_C6___init__ an_C6___init__ : Option Addr} {sl_C6___init__ : Array (Option Value)} {oc_C6___init__ kV_C6___init__ dc_C6___init__ pm_C6___init__ cd_C6___init__ ct_C6___init__ : Value}
    {g_C6___eq__ : Addr} {od_C6___eq__ an_C6___eq__ : Option Addr} {sl_C6___eq__ : Array (Option Value)} {oc_C6___eq__ kV_C6___eq__ dc_C6___eq__ pm_C6___eq__ cd_C6___eq__ ct_C6___eq__ : Value}
    {g_C7___init__ : Addr} {od_C7___init__ an_C7___init__ : Option Addr} {sl_C7___init__ : Array (Option Value)} {oc_C7___init__ kV_C7___init__ dc_C7___init__ pm_C7___init__ cd_C7___init__ ct_C7___init__ : Value}
    {g_C7___eq__ : Addr} {od_C7___eq__ an_C7___eq__ : Option Addr} {sl_C7___eq__ : Array (Option Value)} {oc_C7___eq__ kV_C7___eq__ dc_C7___eq__ pm_C7___eq__ cd_C7___eq__ ct_C7___eq__ : Value}
    {g_C8___init__ : Addr} {od_C8___init__ an_C8___init__ : Option Addr} {sl_C8___init__ : Array (Option Value)} {oc_C8___init__ kV_C8___init__ dc_C8___init__ pm_C8___init__ cd_C8___init__ ct_C8___init__ : Value}
    {g_C8___eq__ : Addr} {od_C8___eq__ an_C8___eq__ : Option Addr} {sl_C8___eq__ : Array (Option Value)} {oc_C8___eq__ kV_C8___eq__ dc_C8___eq__ pm_C8___eq__ cd_C8___eq__ ct_C8___eq__ : Value}
    {g_C9___init__ : Addr} {od_C9___init__ an_C9___init__ : Option Addr} {sl_C9___init__ : Array (Option Value)} {oc_C9___init__ kV_C9___init__ dc_C9___init__ pm_C9___init__ cd_C9___init__ ct_C9___init__ : Value}
    {g_C9___eq__ : Addr} {od_C9___eq__ an_C9___eq__ : Option Addr} {sl_C9___eq__ : Array (Option Value)} {oc_C9___eq__ kV_C9___eq__ dc_C9___eq__ pm_C9___eq__ cd_C9___eq__ ct_C9___eq__ : Value}
    {g_C10___init__ : Addr} {od_C10___init__ an_C10___init__ : Option Addr} {sl_C10___init__ : Array (Option Value)} {oc_C10___init__ kV_C10___init__ dc_C10___init__ pm_C10___init__ cd_C10___init__ ct_C10___init__ : Value}
    {g_C10___eq__ : Addr} {od_C10___eq__ an_C10___eq__ : Option Addr} {sl_C10___eq__ : Array (Option Value)} {oc_C10___eq__ kV_C10___eq__ dc_C10___eq__ pm_C10___eq__ cd_C10___eq__ ct_C10___eq__ : Value}
    {g_C11___init__ : Addr} {od_C11___init__ an_C11___init__ : Option Addr} {sl_C11___init__ : Array (Option Value)} {oc_C11___init__ kV_C11___init__ dc_C11___init__ pm_C11___init__ cd_C11___init__ ct_C11___init__ : Value}
    {g_C11___eq__ : Addr} {od_C11___eq__ an_C11___eq__ : Option Addr} {sl_C11___eq__ : Array (Option Value)} {oc_C11___eq__ kV_C11___eq__ dc_C11___eq__ pm_C11___eq__ cd_C11___eq__ ct_C11___eq__ : Value}
    {g_C12___init__ : Addr} {od_C12___init__ an_C12___init__ : Option Addr} {sl_C12___init__ : Array (Option Value)} {oc_C12___init__ kV_C12___init__ dc_C12___init__ pm_C12___init__ cd_C12___init__ ct_C12___init__ : Value}
    {g_C12___eq__ : Addr} {od_C12___eq__ an_C12___eq__ : Option Addr} {sl_C12___eq__ : Array (Option Value)} {oc_C12___eq__ kV_C12___eq__ dc_C12___eq__ pm_C12___eq__ cd_C12___eq__ ct_C12___eq__ : Value}
    {g_C13___init__ : Addr} {od_C13___init__ an_C13___init__ : Option Addr} {sl_C13___init__ : Array (Option Value)} {oc_C13___init__ kV_C13___init__ dc_C13___init__ pm_C13___init__ cd_C13___init__ ct_C13___init__ : Value}
    {g_C13___eq__ : Addr} {od_C13___eq__ an_C13___eq__ : Option Addr} {sl_C13___eq__ : Array (Option Value)} {oc_C13___eq__ kV_C13___eq__ dc_C13___eq__ pm_C13___eq__ cd_C13___eq__ ct_C13___eq__ : Value}
    {g_C14___init__ : Addr} {od_C14___init__ an_C14___init__ : Option Addr} {sl_C14___init__ : Array (Option Value)} {oc_C14___init__ kV_C14___init__ dc_C14___init__ pm_C14___init__ cd_C14___init__ ct_C14___init__ : Value}
    {g_C14___eq__ : Addr} {od_C14___eq__ an_C14___eq__ : Option Addr} {sl_C14___eq__ : Array (Option Value)} {oc_C14___eq__ kV_C14___eq__ dc_C14___eq__ pm_C14___eq__ cd_C14___eq__ ct_C14___eq__ : Value}
    {g_C15___init__ : Addr} {od_C15___init__ an_C15___init__ : Option Addr} {sl_C15___init__ : Array (Option Value)} {oc_C15___init__ kV_C15___init__ dc_C15___init__ pm_C15___init__ cd_C15___init__ ct_C15___init__ : Value}
    {g_C15___eq__ : Addr} {od_C15___eq__ an_C15___eq__ : Option Addr} {sl_C15___eq__ : Array (Option Value)} {oc_C15___eq__ kV_C15___eq__ dc_C15___eq__ pm_C15___eq__ cd_C15___eq__ ct_C15___eq__ : Value}
    {g_C16___init__ : Addr} {od_C16___init__ an_C16___init__ : Option Addr} {sl_C16___init__ : Array (Option Value)} {oc_C16___init__ kV_C16___init__ dc_C16___init__ pm_C16___init__ cd_C16___init__ ct_C16___init__ : Value}
    {g_C16___eq__ : Addr} {od_C16___eq__ an_C16___eq__ : Option Addr} {sl_C16___eq__ : Array (Option Value)} {oc_C16___eq__ kV_C16___eq__ dc_C16___eq__ pm_C16___eq__ cd_C16___eq__ ct_C16___eq__ : Value}
    {g_C17___init__ : Addr} {od_C17___init__ an_C17___init__ : Option Addr} {sl_C17___init__ : Array (Option Value)} {oc_C17___init__ kV_C17___init__ dc_C17___init__ pm_C17___init__ cd_C17___init__ ct_C17___init__ : Value}
    {g_C17___eq__ : Addr} {od_C17___eq__ an_C17___eq__ : Option Addr} {sl_C17___eq__ : Array (Option Value)} {oc_C17___eq__ kV_C17___eq__ dc_C17___eq__ pm_C17___eq__ cd_C17___eq__ ct_C17___eq__ : Value}
    {g_C18___init__ : Addr} {od_C18___init__ an_C18___init__ : Option Addr} {sl_C18___init__ : Array (Option Value)} {oc_C18___init__ kV_C18___init__ dc_C18___init__ pm_C18___init__ cd_C18___init__ ct_C18___init__ : Value}
    {g_C18___eq__ : Addr} {od_C18___eq__ an_C18___eq__ : Option Addr} {sl_C18___eq__ : Array (Option Value)} {oc_C18___eq__ kV_C18___eq__ dc_C18___eq__ pm_C18___eq__ cd_C18___eq__ ct_C18___eq__ : Value}
    {g_C19___init__ : Addr} {od_C19___init__ an_C19___init__ : Option Addr} {sl_C19___init__ : Array (Option Value)} {oc_C19___init__ kV_C19___init__ dc_C19___init__ pm_C19___init__ cd_C19___init__ ct_C19___init__ : Value}
    {g_C19___eq__ : Addr} {od_C19___eq__ an_C19___eq__ : Option Addr} {sl_C19___eq__ : Array (Option Value)} {oc_C19___eq__ kV_C19___eq__ dc_C19___eq__ pm_C19___eq__ cd_C19___eq__ ct_C19___eq__ : Value}
    {g_C20___init__ : Addr} {od_C20___init__ an_C20___init__ : Option Addr} {sl_C20___init__ : Array (Option Value)} {oc_C20___init__ kV_C20___init__ dc_C20___init__ pm_C20___init__ cd_C20___init__ ct_C20___init__ : Value}
    {g_C20___eq__ : Addr} {od_C20___eq__ an_C20___eq__ : Option Addr} {sl_C20___eq__ : Array (Option Value)} {oc_C20___eq__ kV_C20___eq__ dc_C20___eq__ pm_C20___eq__ cd_C20___eq__ ct_C20___eq__ : Value}
    {g_C21___init__ : Addr} {od_C21___init__ an_C21___init__ : Option Addr} {sl_C21___init__ : Array (Option Value)} {oc_C21___init__ kV_C21___init__ dc_C21___init__ pm_C21___init__ cd_C21___init__ ct_C21___init__ : Value}
    {g_C21___eq__ : Addr} {od_C21___eq__ an_C21___eq__ : Option Addr} {sl_C21___eq__ : Array (Option Value)} {oc_C21___eq__ kV_C21___eq__ dc_C21___eq__ pm_C21___eq__ cd_C21___eq__ ct_C21___eq__ : Value}
    {g_C22___init__ : Addr} {od_C22___init__ an_C22___init__ : Option Addr} {sl_C22___init__ : Array (Option Value)} {oc_C22___init__ kV_C22___init__ dc_C22___init__ pm_C22___init__ cd_C22___init__ ct_C22___init__ : Value}
    {g_C22___eq__ : Addr} {od_C22___eq__ an_C22___eq__ : Option Addr} {sl_C22___eq__ : Array (Option Value)} {oc_C22___eq__ kV_C22___eq__ dc_C22___eq__ pm_C22___eq__ cd_C22___eq__ ct_C22___eq__ : Value}
    {g_C23___init__ : Addr} {od_C23___init__ an_C23___init__ : Option Addr} {sl_C23___init__ : Array (Option Value)} {oc_C23___init__ kV_C23___init__ dc_C23___init__ pm_C23___init__ cd_C23___init__ ct_C23___init__ : Value}
    {g_C23___eq__ : Addr} {od_C23___eq__ an_C23___eq__ : Option Addr} {sl_C23___eq__ : Array (Option Value)} {oc_C23___eq__ kV_C23___eq__ dc_C23___eq__ pm_C23___eq__ cd_C23___eq__ ct_C23___eq__ : Value}
    {g_C24___init__ : Addr} {od_C24___init__ an_C24___init__ : Option Addr} {sl_C24___init__ : Array (Option Value)} {oc_C24___init__ kV_C24___init__ dc_C24___init__ pm_C24___init__ cd_C24___init__ ct_C24___init__ : Value}
    {g_C24___eq__ : Addr} {od_C24___eq__ an_C24___eq__ : Option Addr} {sl_C24___eq__ : Array (Option Value)} {oc_C24___eq__ kV_C24___eq__ dc_C24___eq__ pm_C24___eq__ cd_C24___eq__ ct_C24___eq__ : Value}
    {g_C25___init__ : Addr} {od_C25___init__ an_C25___init__ : Option Addr} {sl_C25___init__ : Array (Option Value)} {oc_C25___init__ kV_C25___init__ dc_C25___init__ pm_C25___init__ cd_C25___init__ ct_C25___init__ : Value}
    {g_C25___eq__ : Addr} {od_C25___eq__ an_C25___eq__ : Option Addr} {sl_C25___eq__ : Array (Option Value)} {oc_C25___eq__ kV_C25___eq__ dc_C25___eq__ pm_C25___eq__ cd_C25___eq__ ct_C25___eq__ : Value}
    {g_C26___init__ : Addr} {od_C26___init__ an_C26___init__ : Option Addr} {sl_C26___init__ : Array (Option Value)} {oc_C26___init__ kV_C26___init__ dc_C26___init__ pm_C26___init__ cd_C26___init__ ct_C26___init__ : Value}
    {g_C26___eq__ : Addr} {od_C26___eq__ an_C26___eq__ : Option Addr} {sl_C26___eq__ : Array (Option Value)} {oc_C26___eq__ kV_C26___eq__ dc_C26___eq__ pm_C26___eq__ cd_C26___eq__ ct_C26___eq__ : Value}
    {g_C26_own_row : Addr} {od_C26_own_row an_C26_own_row : Option Addr} {sl_C26_own_row : Array (Option Value)} {oc_C26_own_row kV_C26_own_row dc_C26_own_row pm_C26_own_row cd_C26_own_row ct_C26_own_row : Value}
    (a1 : PySem.W.nsIn K mainGlobals "_law_pen" = some (some (.ref f1)))
    (l1 : K.lookup f1 = some ⟨oc1, od1, .func (PySem.W.fnOf "_law_pen" "_law_pen" (defArgs s__law_pen) (defBody s__law_pen) (defScope s__law_pen) .none kV1 dc1 pm1 an1 cd1 ct1), sl1⟩)
    (c1 : PySem.W.codeIn K cd1 "_law_pen" = true)
    (k1 : PySem.W.keepIn K (.ref f1) = true)
    (a2 : PySem.W.nsIn K mainGlobals "_law_draw" = some (some (.ref f2)))
    (l2 : K.lookup f2 = some ⟨oc2, od2, .func (PySem.W.fnOf "_law_draw" "_law_draw" (defArgs s__law_draw) (defBody s__law_draw) (defScope s__law_draw) .none kV2 dc2 pm2 an2 cd2 ct2), sl2⟩)
    (c2 : PySem.W.codeIn K cd2 "_law_draw" = true)
    (k2 : PySem.W.keepIn K (.ref f2) = true)
    (a3 : PySem.W.nsIn K mainGlobals "_law_pick" = some (some (.ref f3)))
    (l3 : K.lookup f3 = some ⟨oc3, od3, .func (PySem.W.fnOf "_law_pick" "_law_pick" (defArgs s__law_pick) (defBody s__law_pick) (defScope s__law_pick) .none kV3 dc3 pm3 an3 cd3 ct3), sl3⟩)
    (c3 : PySem.W.codeIn K cd3 "_law_pick" = true)
    (k3 : PySem.W.keepIn K (.ref f3) = true)
    (a4 : PySem.W.nsIn K mainGlobals "_law_value" = some (some (.ref f4)))
    (l4 : K.lookup f4 = some ⟨oc4, od4, .func (PySem.W.fnOf "_law_value" "_law_value" (defArgs s__law_value) (defBody s__law_value) (defScope s__law_value) .none kV4 dc4 pm4 an4 cd4 ct4), sl4⟩)
    (c4 : PySem.W.codeIn K cd4 "_law_value" = true)
    (k4 : PySem.W.keepIn K (.ref f4) = true)
    (a5 : PySem.W.nsIn K mainGlobals "_law_made" = some (some (.ref f5)))
    (l5 : K.lookup f5 = some ⟨oc5, od5, .func (PySem.W.fnOf "_law_made" "_law_made" (defArgs s__law_made) (defBody s__law_made) (defScope s__law_made) .none kV5 dc5 pm5 an5 (.ref ct0) ct5), sl5⟩)
    (c5 : PySem.W.codeIn K (.ref ct0) "_law_made" = true)
    (k5 : PySem.W.keepIn K (.ref f5) = true)
    (a6 : PySem.W.nsIn K mainGlobals "law" = some (some (.ref f6)))
    (l6 : K.lookup f6 = some ⟨oc6, od6, .func (PySem.W.fnOf "law" "law" (defArgs s_law) (defBody s_law) (defScope s_law) .none kV6 dc6 pm6 an6 cd6 ct6), sl6⟩)
    (c6 : PySem.W.codeIn K cd6 "law" = true)
    (k6 : PySem.W.keepIn K (.ref f6) = true)
    (a_CP : PySem.W.nsIn K mainGlobals "Paper" = some (some (.ref CP)))
    (a_CD : PySem.W.nsIn K mainGlobals "Denial" = some (some (.ref CD)))
    (a_CD___bool__ : PySem.W.findIn K (.ref CD) "__bool__" = some (some (.ref g_CD___bool__)))
    (l_CD___bool__ : K.lookup g_CD___bool__ = some ⟨oc_CD___bool__, od_CD___bool__, .func (PySem.W.fnOf "__bool__" "Denial.__bool__" (defArgs s_Denial___bool__) (defBody s_Denial___bool__) (defScope s_Denial___bool__) .none kV_CD___bool__ dc_CD___bool__ pm_CD___bool__ an_CD___bool__ cd_CD___bool__ ct_CD___bool__), sl_CD___bool__⟩)
    (c_CD___bool__ : PySem.W.codeIn K cd_CD___bool__ "Denial.__bool__" = true)
    (k_CD___bool__ : PySem.W.keepIn K (.ref g_CD___bool__) = true)
    (i_CD___bool__ : PySem.W.isFn K (.ref g_CD___bool__) = true)
    (a_C0 : PySem.W.nsIn K mainGlobals "Fewest" = some (some (.ref C0)))
    (a_C0___init__ : PySem.W.findIn K (.ref C0) "__init__" = some (some (.ref g_C0___init__)))
    (l_C0___init__ : K.lookup g_C0___init__ = some ⟨oc_C0___init__, od_C0___init__, .func (PySem.W.fnOf "__init__" "Fewest.__init__" (defArgs s_Fewest___init__) (defBody s_Fewest___init__) (defScope s_Fewest___init__) .none kV_C0___init__ dc_C0___init__ pm_C0___init__ an_C0___init__ cd_C0___init__ ct_C0___init__), sl_C0___init__⟩)
    (c_C0___init__ : PySem.W.codeIn K cd_C0___init__ "Fewest.__init__" = true)
    (k_C0___init__ : PySem.W.keepIn K (.ref g_C0___init__) = true)
    (i_C0___init__ : PySem.W.isFn K (.ref g_C0___init__) = true)
    (a_C0___eq__ : PySem.W.findIn K (.ref C0) "__eq__" = some (some (.ref g_C0___eq__)))
    (l_C0___eq__ : K.lookup g_C0___eq__ = some ⟨oc_C0___eq__, od_C0___eq__, .func (PySem.W.fnOf "__eq__" "Fewest.__eq__" (defArgs s_Fewest___eq__) (defBody s_Fewest___eq__) (defScope s_Fewest___eq__) .none kV_C0___eq__ dc_C0___eq__ pm_C0___eq__ an_C0___eq__ cd_C0___eq__ ct_C0___eq__), sl_C0___eq__⟩)
    (c_C0___eq__ : PySem.W.codeIn K cd_C0___eq__ "Fewest.__eq__" = true)
    (k_C0___eq__ : PySem.W.keepIn K (.ref g_C0___eq__) = true)
    (i_C0___eq__ : PySem.W.isFn K (.ref g_C0___eq__) = true)
    (mk_C0 : PySem.W.makesIn K C0 = true)
    (kc_C0 : PySem.W.keepIn K (.ref C0) = true)
    (a_C1 : PySem.W.nsIn K mainGlobals "NoList" = some (some (.ref C1)))
    (a_C1___init__ : PySem.W.findIn K (.ref C1) "__init__" = some (some (.ref g_C1___init__)))
    (l_C1___init__ : K.lookup g_C1___init__ = some ⟨oc_C1___init__, od_C1___init__, .func (PySem.W.fnOf "__init__" "NoList.__init__" (defArgs s_NoList___init__) (defBody s_NoList___init__) (defScope s_NoList___init__) .none kV_C1___init__ dc_C1___init__ pm_C1___init__ an_C1___init__ cd_C1___init__ ct_C1___init__), sl_C1___init__⟩)
    (c_C1___init__ : PySem.W.codeIn K cd_C1___init__ "NoList.__init__" = true)
    (k_C1___init__ : PySem.W.keepIn K (.ref g_C1___init__) = true)
    (i_C1___init__ : PySem.W.isFn K (.ref g_C1___init__) = true)
    (a_C1___eq__ : PySem.W.findIn K (.ref C1) "__eq__" = some (some (.ref g_C1___eq__)))
    (l_C1___eq__ : K.lookup g_C1___eq__ = some ⟨oc_C1___eq__, od_C1___eq__, .func (PySem.W.fnOf "__eq__" "NoList.__eq__" (defArgs s_NoList___eq__) (defBody s_NoList___eq__) (defScope s_NoList___eq__) .none kV_C1___eq__ dc_C1___eq__ pm_C1___eq__ an_C1___eq__ cd_C1___eq__ ct_C1___eq__), sl_C1___eq__⟩)
    (c_C1___eq__ : PySem.W.codeIn K cd_C1___eq__ "NoList.__eq__" = true)
    (k_C1___eq__ : PySem.W.keepIn K (.ref g_C1___eq__) = true)
    (i_C1___eq__ : PySem.W.isFn K (.ref g_C1___eq__) = true)
    (mk_C1 : PySem.W.makesIn K C1 = true)
    (kc_C1 : PySem.W.keepIn K (.ref C1) = true)
    (a_C2 : PySem.W.nsIn K mainGlobals "Greatest" = some (some (.ref C2)))
    (a_C2___init__ : PySem.W.findIn K (.ref C2) "__init__" = some (some (.ref g_C2___init__)))
    (l_C2___init__ : K.lookup g_C2___init__ = some ⟨oc_C2___init__, od_C2___init__, .func (PySem.W.fnOf "__init__" "Greatest.__init__" (defArgs s_Greatest___init__) (defBody s_Greatest___init__) (defScope s_Greatest___init__) .none kV_C2___init__ dc_C2___init__ pm_C2___init__ an_C2___init__ cd_C2___init__ ct_C2___init__), sl_C2___init__⟩)
    (c_C2___init__ : PySem.W.codeIn K cd_C2___init__ "Greatest.__init__" = true)
    (k_C2___init__ : PySem.W.keepIn K (.ref g_C2___init__) = true)
    (i_C2___init__ : PySem.W.isFn K (.ref g_C2___init__) = true)
    (a_C2___eq__ : PySem.W.findIn K (.ref C2) "__eq__" = some (some (.ref g_C2___eq__)))
    (l_C2___eq__ : K.lookup g_C2___eq__ = some ⟨oc_C2___eq__, od_C2___eq__, .func (PySem.W.fnOf "__eq__" "Greatest.__eq__" (defArgs s_Greatest___eq__) (defBody s_Greatest___eq__) (defScope s_Greatest___eq__) .none kV_C2___eq__ dc_C2___eq__ pm_C2___eq__ an_C2___eq__ cd_C2___eq__ ct_C2___eq__), sl_C2___eq__⟩)
    (c_C2___eq__ : PySem.W.codeIn K cd_C2___eq__ "Greatest.__eq__" = true)
    (k_C2___eq__ : PySem.W.keepIn K (.ref g_C2___eq__) = true)
    (i_C2___eq__ : PySem.W.isFn K (.ref g_C2___eq__) = true)
    (mk_C2 : PySem.W.makesIn K C2 = true)
    (kc_C2 : PySem.W.keepIn K (.ref C2) = true)
    (a_C3 : PySem.W.nsIn K mainGlobals "Least" = some (some (.ref C3)))
    (a_C3___init__ : PySem.W.findIn K (.ref C3) "__init__" = some (some (.ref g_C3___init__)))
    (l_C3___init__ : K.lookup g_C3___init__ = some ⟨oc_C3___init__, od_C3___init__, .func (PySem.W.fnOf "__init__" "Least.__init__" (defArgs s_Least___init__) (defBody s_Least___init__) (defScope s_Least___init__) .none kV_C3___init__ dc_C3___init__ pm_C3___init__ an_C3___init__ cd_C3___init__ ct_C3___init__), sl_C3___init__⟩)
    (c_C3___init__ : PySem.W.codeIn K cd_C3___init__ "Least.__init__" = true)
    (k_C3___init__ : PySem.W.keepIn K (.ref g_C3___init__) = true)
    (i_C3___init__ : PySem.W.isFn K (.ref g_C3___init__) = true)
    (a_C3___eq__ : PySem.W.findIn K (.ref C3) "__eq__" = some (some (.ref g_C3___eq__)))
    (l_C3___eq__ : K.lookup g_C3___eq__ = some ⟨oc_C3___eq__, od_C3___eq__, .func (PySem.W.fnOf "__eq__" "Least.__eq__" (defArgs s_Least___eq__) (defBody s_Least___eq__) (defScope s_Least___eq__) .none kV_C3___eq__ dc_C3___eq__ pm_C3___eq__ an_C3___eq__ cd_C3___eq__ ct_C3___eq__), sl_C3___eq__⟩)
    (c_C3___eq__ : PySem.W.codeIn K cd_C3___eq__ "Least.__eq__" = true)
    (k_C3___eq__ : PySem.W.keepIn K (.ref g_C3___eq__) = true)
    (i_C3___eq__ : PySem.W.isFn K (.ref g_C3___eq__) = true)
    (mk_C3 : PySem.W.makesIn K C3 = true)
    (kc_C3 : PySem.W.keepIn K (.ref C3) = true)
    (a_C4 : PySem.W.nsIn K mainGlobals "BatchBound" = some (some (.ref C4)))
    (a_C4___init__ : PySem.W.findIn K (.ref C4) "__init__" = some (some (.ref g_C4___init__)))
    (l_C4___init__ : K.lookup g_C4___init__ = some ⟨oc_C4___init__, od_C4___init__, .func (PySem.W.fnOf "__init__" "BatchBound.__init__" (defArgs s_BatchBound___init__) (defBody s_BatchBound___init__) (defScope s_BatchBound___init__) .none kV_C4___init__ dc_C4___init__ pm_C4___init__ an_C4___init__ cd_C4___init__ ct_C4___init__), sl_C4___init__⟩)
    (c_C4___init__ : PySem.W.codeIn K cd_C4___init__ "BatchBound.__init__" = true)
    (k_C4___init__ : PySem.W.keepIn K (.ref g_C4___init__) = true)
    (i_C4___init__ : PySem.W.isFn K (.ref g_C4___init__) = true)
    (a_C4___eq__ : PySem.W.findIn K (.ref C4) "__eq__" = some (some (.ref g_C4___eq__)))
    (l_C4___eq__ : K.lookup g_C4___eq__ = some ⟨oc_C4___eq__, od_C4___eq__, .func (PySem.W.fnOf "__eq__" "BatchBound.__eq__" (defArgs s_BatchBound___eq__) (defBody s_BatchBound___eq__) (defScope s_BatchBound___eq__) .none kV_C4___eq__ dc_C4___eq__ pm_C4___eq__ an_C4___eq__ cd_C4___eq__ ct_C4___eq__), sl_C4___eq__⟩)
    (c_C4___eq__ : PySem.W.codeIn K cd_C4___eq__ "BatchBound.__eq__" = true)
    (k_C4___eq__ : PySem.W.keepIn K (.ref g_C4___eq__) = true)
    (i_C4___eq__ : PySem.W.isFn K (.ref g_C4___eq__) = true)
    (mk_C4 : PySem.W.makesIn K C4 = true)
    (kc_C4 : PySem.W.keepIn K (.ref C4) = true)
    (a_C5 : PySem.W.nsIn K mainGlobals "BatchEndless" = some (some (.ref C5)))
    (a_C5___init__ : PySem.W.findIn K (.ref C5) "__init__" = some (some (.ref g_C5___init__)))
    (l_C5___init__ : K.lookup g_C5___init__ = some ⟨oc_C5___init__, od_C5___init__, .func (PySem.W.fnOf "__init__" "BatchEndless.__init__" (defArgs s_BatchEndless___init__) (defBody s_BatchEndless___init__) (defScope s_BatchEndless___init__) .none kV_C5___init__ dc_C5___init__ pm_C5___init__ an_C5___init__ cd_C5___init__ ct_C5___init__), sl_C5___init__⟩)
    (c_C5___init__ : PySem.W.codeIn K cd_C5___init__ "BatchEndless.__init__" = true)
    (k_C5___init__ : PySem.W.keepIn K (.ref g_C5___init__) = true)
    (i_C5___init__ : PySem.W.isFn K (.ref g_C5___init__) = true)
    (a_C5___eq__ : PySem.W.findIn K (.ref C5) "__eq__" = some (some (.ref g_C5___eq__)))
    (l_C5___eq__ : K.lookup g_C5___eq__ = some ⟨oc_C5___eq__, od_C5___eq__, .func (PySem.W.fnOf "__eq__" "BatchEndless.__eq__" (defArgs s_BatchEndless___eq__) (defBody s_BatchEndless___eq__) (defScope s_BatchEndless___eq__) .none kV_C5___eq__ dc_C5___eq__ pm_C5___eq__ an_C5___eq__ cd_C5___eq__ ct_C5___eq__), sl_C5___eq__⟩)
    (c_C5___eq__ : PySem.W.codeIn K cd_C5___eq__ "BatchEndless.__eq__" = true)
    (k_C5___eq__ : PySem.W.keepIn K (.ref g_C5___eq__) = true)
    (i_C5___eq__ : PySem.W.isFn K (.ref g_C5___eq__) = true)
    (mk_C5 : PySem.W.makesIn K C5 = true)
    (kc_C5 : PySem.W.keepIn K (.ref C5) = true)
    (a_C6 : PySem.W.nsIn K mainGlobals "NeverLess" = some (some (.ref C6)))
    (a_C6___init__ : PySem.W.findIn K (.ref C6) "__init__" = some (some (.ref g_C6___init__)))
    (l_C6___init__ : K.lookup g_C6___init__ = some ⟨oc_C6___init__, od_C6___init__, .func (PySem.W.fnOf "__init__" "NeverLess.__init__" (defArgs s_NeverLess___init__) (defBody s_NeverLess___init__) (defScope s_NeverLess___init__) .none kV_C6___init__ dc_C6___init__ pm_C6___init__ an_C6___init__ cd_C6___init__ ct_C6___init__), sl_C6___init__⟩)
    (c_C6___init__ : PySem.W.codeIn K cd_C6___init__ "NeverLess.__init__" = true)
    (k_C6___init__ : PySem.W.keepIn K (.ref g_C6___init__) = true)
    (i_C6___init__ : PySem.W.isFn K (.ref g_C6___init__) = true)
    (a_C6___eq__ : PySem.W.findIn K (.ref C6) "__eq__" = some (some (.ref g_C6___eq__)))
    (l_C6___eq__ : K.lookup g_C6___eq__ = some ⟨oc_C6___eq__, od_C6___eq__, .func (PySem.W.fnOf "__eq__" "NeverLess.__eq__" (defArgs s_NeverLess___eq__) (defBody s_NeverLess___eq__) (defScope s_NeverLess___eq__) .none kV_C6___eq__ dc_C6___eq__ pm_C6___eq__ an_C6___eq__ cd_C6___eq__ ct_C6___eq__), sl_C6___eq__⟩)
    (c_C6___eq__ : PySem.W.codeIn K cd_C6___eq__ "NeverLess.__eq__" = true)
    (k_C6___eq__ : PySem.W.keepIn K (.ref g_C6___eq__) = true)
    (i_C6___eq__ : PySem.W.isFn K (.ref g_C6___eq__) = true)
    (mk_C6 : PySem.W.makesIn K C6 = true)
    (kc_C6 : PySem.W.keepIn K (.ref C6) = true)
    (a_C7 : PySem.W.nsIn K mainGlobals "Less" = some (some (.ref C7)))
    (a_C7___init__ : PySem.W.findIn K (.ref C7) "__init__" = some (some (.ref g_C7___init__)))
    (l_C7___init__ : K.lookup g_C7___init__ = some ⟨oc_C7___init__, od_C7___init__, .func (PySem.W.fnOf "__init__" "Less.__init__" (defArgs s_Less___init__) (defBody s_Less___init__) (defScope s_Less___init__) .none kV_C7___init__ dc_C7___init__ pm_C7___init__ an_C7___init__ cd_C7___init__ ct_C7___init__), sl_C7___init__⟩)
    (c_C7___init__ : PySem.W.codeIn K cd_C7___init__ "Less.__init__" = true)
    (k_C7___init__ : PySem.W.keepIn K (.ref g_C7___init__) = true)
    (i_C7___init__ : PySem.W.isFn K (.ref g_C7___init__) = true)
    (a_C7___eq__ : PySem.W.findIn K (.ref C7) "__eq__" = some (some (.ref g_C7___eq__)))
    (l_C7___eq__ : K.lookup g_C7___eq__ = some ⟨oc_C7___eq__, od_C7___eq__, .func (PySem.W.fnOf "__eq__" "Less.__eq__" (defArgs s_Less___eq__) (defBody s_Less___eq__) (defScope s_Less___eq__) .none kV_C7___eq__ dc_C7___eq__ pm_C7___eq__ an_C7___eq__ cd_C7___eq__ ct_C7___eq__), sl_C7___eq__⟩)
    (c_C7___eq__ : PySem.W.codeIn K cd_C7___eq__ "Less.__eq__" = true)
    (k_C7___eq__ : PySem.W.keepIn K (.ref g_C7___eq__) = true)
    (i_C7___eq__ : PySem.W.isFn K (.ref g_C7___eq__) = true)
    (mk_C7 : PySem.W.makesIn K C7 = true)
    (kc_C7 : PySem.W.keepIn K (.ref C7) = true)
    (a_C8 : PySem.W.nsIn K mainGlobals "Steady" = some (some (.ref C8)))
    (a_C8___init__ : PySem.W.findIn K (.ref C8) "__init__" = some (some (.ref g_C8___init__)))
    (l_C8___init__ : K.lookup g_C8___init__ = some ⟨oc_C8___init__, od_C8___init__, .func (PySem.W.fnOf "__init__" "Steady.__init__" (defArgs s_Steady___init__) (defBody s_Steady___init__) (defScope s_Steady___init__) .none kV_C8___init__ dc_C8___init__ pm_C8___init__ an_C8___init__ cd_C8___init__ ct_C8___init__), sl_C8___init__⟩)
    (c_C8___init__ : PySem.W.codeIn K cd_C8___init__ "Steady.__init__" = true)
    (k_C8___init__ : PySem.W.keepIn K (.ref g_C8___init__) = true)
    (i_C8___init__ : PySem.W.isFn K (.ref g_C8___init__) = true)
    (a_C8___eq__ : PySem.W.findIn K (.ref C8) "__eq__" = some (some (.ref g_C8___eq__)))
    (l_C8___eq__ : K.lookup g_C8___eq__ = some ⟨oc_C8___eq__, od_C8___eq__, .func (PySem.W.fnOf "__eq__" "Steady.__eq__" (defArgs s_Steady___eq__) (defBody s_Steady___eq__) (defScope s_Steady___eq__) .none kV_C8___eq__ dc_C8___eq__ pm_C8___eq__ an_C8___eq__ cd_C8___eq__ ct_C8___eq__), sl_C8___eq__⟩)
    (c_C8___eq__ : PySem.W.codeIn K cd_C8___eq__ "Steady.__eq__" = true)
    (k_C8___eq__ : PySem.W.keepIn K (.ref g_C8___eq__) = true)
    (i_C8___eq__ : PySem.W.isFn K (.ref g_C8___eq__) = true)
    (mk_C8 : PySem.W.makesIn K C8 = true)
    (kc_C8 : PySem.W.keepIn K (.ref C8) = true)
    (a_C9 : PySem.W.nsIn K mainGlobals "Jump" = some (some (.ref C9)))
    (a_C9___init__ : PySem.W.findIn K (.ref C9) "__init__" = some (some (.ref g_C9___init__)))
    (l_C9___init__ : K.lookup g_C9___init__ = some ⟨oc_C9___init__, od_C9___init__, .func (PySem.W.fnOf "__init__" "Jump.__init__" (defArgs s_Jump___init__) (defBody s_Jump___init__) (defScope s_Jump___init__) .none kV_C9___init__ dc_C9___init__ pm_C9___init__ an_C9___init__ cd_C9___init__ ct_C9___init__), sl_C9___init__⟩)
    (c_C9___init__ : PySem.W.codeIn K cd_C9___init__ "Jump.__init__" = true)
    (k_C9___init__ : PySem.W.keepIn K (.ref g_C9___init__) = true)
    (i_C9___init__ : PySem.W.isFn K (.ref g_C9___init__) = true)
    (a_C9___eq__ : PySem.W.findIn K (.ref C9) "__eq__" = some (some (.ref g_C9___eq__)))
    (l_C9___eq__ : K.lookup g_C9___eq__ = some ⟨oc_C9___eq__, od_C9___eq__, .func (PySem.W.fnOf "__eq__" "Jump.__eq__" (defArgs s_Jump___eq__) (defBody s_Jump___eq__) (defScope s_Jump___eq__) .none kV_C9___eq__ dc_C9___eq__ pm_C9___eq__ an_C9___eq__ cd_C9___eq__ ct_C9___eq__), sl_C9___eq__⟩)
    (c_C9___eq__ : PySem.W.codeIn K cd_C9___eq__ "Jump.__eq__" = true)
    (k_C9___eq__ : PySem.W.keepIn K (.ref g_C9___eq__) = true)
    (i_C9___eq__ : PySem.W.isFn K (.ref g_C9___eq__) = true)
    (mk_C9 : PySem.W.makesIn K C9 = true)
    (kc_C9 : PySem.W.keepIn K (.ref C9) = true)
    (a_C10 : PySem.W.nsIn K mainGlobals "Same" = some (some (.ref C10)))
    (a_C10___init__ : PySem.W.findIn K (.ref C10) "__init__" = some (some (.ref g_C10___init__)))
    (l_C10___init__ : K.lookup g_C10___init__ = some ⟨oc_C10___init__, od_C10___init__, .func (PySem.W.fnOf "__init__" "Same.__init__" (defArgs s_Same___init__) (defBody s_Same___init__) (defScope s_Same___init__) .none kV_C10___init__ dc_C10___init__ pm_C10___init__ an_C10___init__ cd_C10___init__ ct_C10___init__), sl_C10___init__⟩)
    (c_C10___init__ : PySem.W.codeIn K cd_C10___init__ "Same.__init__" = true)
    (k_C10___init__ : PySem.W.keepIn K (.ref g_C10___init__) = true)
    (i_C10___init__ : PySem.W.isFn K (.ref g_C10___init__) = true)
    (a_C10___eq__ : PySem.W.findIn K (.ref C10) "__eq__" = some (some (.ref g_C10___eq__)))
    (l_C10___eq__ : K.lookup g_C10___eq__ = some ⟨oc_C10___eq__, od_C10___eq__, .func (PySem.W.fnOf "__eq__" "Same.__eq__" (defArgs s_Same___eq__) (defBody s_Same___eq__) (defScope s_Same___eq__) .none kV_C10___eq__ dc_C10___eq__ pm_C10___eq__ an_C10___eq__ cd_C10___eq__ ct_C10___eq__), sl_C10___eq__⟩)
    (c_C10___eq__ : PySem.W.codeIn K cd_C10___eq__ "Same.__eq__" = true)
    (k_C10___eq__ : PySem.W.keepIn K (.ref g_C10___eq__) = true)
    (i_C10___eq__ : PySem.W.isFn K (.ref g_C10___eq__) = true)
    (mk_C10 : PySem.W.makesIn K C10 = true)
    (kc_C10 : PySem.W.keepIn K (.ref C10) = true)
    (a_C11 : PySem.W.nsIn K mainGlobals "Other" = some (some (.ref C11)))
    (a_C11___init__ : PySem.W.findIn K (.ref C11) "__init__" = some (some (.ref g_C11___init__)))
    (l_C11___init__ : K.lookup g_C11___init__ = some ⟨oc_C11___init__, od_C11___init__, .func (PySem.W.fnOf "__init__" "Other.__init__" (defArgs s_Other___init__) (defBody s_Other___init__) (defScope s_Other___init__) .none kV_C11___init__ dc_C11___init__ pm_C11___init__ an_C11___init__ cd_C11___init__ ct_C11___init__), sl_C11___init__⟩)
    (c_C11___init__ : PySem.W.codeIn K cd_C11___init__ "Other.__init__" = true)
    (k_C11___init__ : PySem.W.keepIn K (.ref g_C11___init__) = true)
    (i_C11___init__ : PySem.W.isFn K (.ref g_C11___init__) = true)
    (a_C11___eq__ : PySem.W.findIn K (.ref C11) "__eq__" = some (some (.ref g_C11___eq__)))
    (l_C11___eq__ : K.lookup g_C11___eq__ = some ⟨oc_C11___eq__, od_C11___eq__, .func (PySem.W.fnOf "__eq__" "Other.__eq__" (defArgs s_Other___eq__) (defBody s_Other___eq__) (defScope s_Other___eq__) .none kV_C11___eq__ dc_C11___eq__ pm_C11___eq__ an_C11___eq__ cd_C11___eq__ ct_C11___eq__), sl_C11___eq__⟩)
    (c_C11___eq__ : PySem.W.codeIn K cd_C11___eq__ "Other.__eq__" = true)
    (k_C11___eq__ : PySem.W.keepIn K (.ref g_C11___eq__) = true)
    (i_C11___eq__ : PySem.W.isFn K (.ref g_C11___eq__) = true)
    (mk_C11 : PySem.W.makesIn K C11 = true)
    (kc_C11 : PySem.W.keepIn K (.ref C11) = true)
    (a_C12 : PySem.W.nsIn K mainGlobals "Surely" = some (some (.ref C12)))
    (a_C12___init__ : PySem.W.findIn K (.ref C12) "__init__" = some (some (.ref g_C12___init__)))
    (l_C12___init__ : K.lookup g_C12___init__ = some ⟨oc_C12___init__, od_C12___init__, .func (PySem.W.fnOf "__init__" "Surely.__init__" (defArgs s_Surely___init__) (defBody s_Surely___init__) (defScope s_Surely___init__) .none kV_C12___init__ dc_C12___init__ pm_C12___init__ an_C12___init__ cd_C12___init__ ct_C12___init__), sl_C12___init__⟩)
    (c_C12___init__ : PySem.W.codeIn K cd_C12___init__ "Surely.__init__" = true)
    (k_C12___init__ : PySem.W.keepIn K (.ref g_C12___init__) = true)
    (i_C12___init__ : PySem.W.isFn K (.ref g_C12___init__) = true)
    (a_C12___eq__ : PySem.W.findIn K (.ref C12) "__eq__" = some (some (.ref g_C12___eq__)))
    (l_C12___eq__ : K.lookup g_C12___eq__ = some ⟨oc_C12___eq__, od_C12___eq__, .func (PySem.W.fnOf "__eq__" "Surely.__eq__" (defArgs s_Surely___eq__) (defBody s_Surely___eq__) (defScope s_Surely___eq__) .none kV_C12___eq__ dc_C12___eq__ pm_C12___eq__ an_C12___eq__ cd_C12___eq__ ct_C12___eq__), sl_C12___eq__⟩)
    (c_C12___eq__ : PySem.W.codeIn K cd_C12___eq__ "Surely.__eq__" = true)
    (k_C12___eq__ : PySem.W.keepIn K (.ref g_C12___eq__) = true)
    (i_C12___eq__ : PySem.W.isFn K (.ref g_C12___eq__) = true)
    (mk_C12 : PySem.W.makesIn K C12 = true)
    (kc_C12 : PySem.W.keepIn K (.ref C12) = true)
    (a_C13 : PySem.W.nsIn K mainGlobals "Counter" = some (some (.ref C13)))
    (a_C13___init__ : PySem.W.findIn K (.ref C13) "__init__" = some (some (.ref g_C13___init__)))
    (l_C13___init__ : K.lookup g_C13___init__ = some ⟨oc_C13___init__, od_C13___init__, .func (PySem.W.fnOf "__init__" "Counter.__init__" (defArgs s_Counter___init__) (defBody s_Counter___init__) (defScope s_Counter___init__) .none kV_C13___init__ dc_C13___init__ pm_C13___init__ an_C13___init__ cd_C13___init__ ct_C13___init__), sl_C13___init__⟩)
    (c_C13___init__ : PySem.W.codeIn K cd_C13___init__ "Counter.__init__" = true)
    (k_C13___init__ : PySem.W.keepIn K (.ref g_C13___init__) = true)
    (i_C13___init__ : PySem.W.isFn K (.ref g_C13___init__) = true)
    (a_C13___eq__ : PySem.W.findIn K (.ref C13) "__eq__" = some (some (.ref g_C13___eq__)))
    (l_C13___eq__ : K.lookup g_C13___eq__ = some ⟨oc_C13___eq__, od_C13___eq__, .func (PySem.W.fnOf "__eq__" "Counter.__eq__" (defArgs s_Counter___eq__) (defBody s_Counter___eq__) (defScope s_Counter___eq__) .none kV_C13___eq__ dc_C13___eq__ pm_C13___eq__ an_C13___eq__ cd_C13___eq__ ct_C13___eq__), sl_C13___eq__⟩)
    (c_C13___eq__ : PySem.W.codeIn K cd_C13___eq__ "Counter.__eq__" = true)
    (k_C13___eq__ : PySem.W.keepIn K (.ref g_C13___eq__) = true)
    (i_C13___eq__ : PySem.W.isFn K (.ref g_C13___eq__) = true)
    (mk_C13 : PySem.W.makesIn K C13 = true)
    (kc_C13 : PySem.W.keepIn K (.ref C13) = true)
    (a_C14 : PySem.W.nsIn K mainGlobals "Undecided" = some (some (.ref C14)))
    (a_C14___init__ : PySem.W.findIn K (.ref C14) "__init__" = some (some (.ref g_C14___init__)))
    (l_C14___init__ : K.lookup g_C14___init__ = some ⟨oc_C14___init__, od_C14___init__, .func (PySem.W.fnOf "__init__" "Undecided.__init__" (defArgs s_Undecided___init__) (defBody s_Undecided___init__) (defScope s_Undecided___init__) .none kV_C14___init__ dc_C14___init__ pm_C14___init__ an_C14___init__ cd_C14___init__ ct_C14___init__), sl_C14___init__⟩)
    (c_C14___init__ : PySem.W.codeIn K cd_C14___init__ "Undecided.__init__" = true)
    (k_C14___init__ : PySem.W.keepIn K (.ref g_C14___init__) = true)
    (i_C14___init__ : PySem.W.isFn K (.ref g_C14___init__) = true)
    (a_C14___eq__ : PySem.W.findIn K (.ref C14) "__eq__" = some (some (.ref g_C14___eq__)))
    (l_C14___eq__ : K.lookup g_C14___eq__ = some ⟨oc_C14___eq__, od_C14___eq__, .func (PySem.W.fnOf "__eq__" "Undecided.__eq__" (defArgs s_Undecided___eq__) (defBody s_Undecided___eq__) (defScope s_Undecided___eq__) .none kV_C14___eq__ dc_C14___eq__ pm_C14___eq__ an_C14___eq__ cd_C14___eq__ ct_C14___eq__), sl_C14___eq__⟩)
    (c_C14___eq__ : PySem.W.codeIn K cd_C14___eq__ "Undecided.__eq__" = true)
    (k_C14___eq__ : PySem.W.keepIn K (.ref g_C14___eq__) = true)
    (i_C14___eq__ : PySem.W.isFn K (.ref g_C14___eq__) = true)
    (mk_C14 : PySem.W.makesIn K C14 = true)
    (kc_C14 : PySem.W.keepIn K (.ref C14) = true)
    (a_C15 : PySem.W.nsIn K mainGlobals "Bound" = some (some (.ref C15)))
    (a_C15___init__ : PySem.W.findIn K (.ref C15) "__init__" = some (some (.ref g_C15___init__)))
    (l_C15___init__ : K.lookup g_C15___init__ = some ⟨oc_C15___init__, od_C15___init__, .func (PySem.W.fnOf "__init__" "Bound.__init__" (defArgs s_Bound___init__) (defBody s_Bound___init__) (defScope s_Bound___init__) .none kV_C15___init__ dc_C15___init__ pm_C15___init__ an_C15___init__ cd_C15___init__ ct_C15___init__), sl_C15___init__⟩)
    (c_C15___init__ : PySem.W.codeIn K cd_C15___init__ "Bound.__init__" = true)
    (k_C15___init__ : PySem.W.keepIn K (.ref g_C15___init__) = true)
    (i_C15___init__ : PySem.W.isFn K (.ref g_C15___init__) = true)
    (a_C15___eq__ : PySem.W.findIn K (.ref C15) "__eq__" = some (some (.ref g_C15___eq__)))
    (l_C15___eq__ : K.lookup g_C15___eq__ = some ⟨oc_C15___eq__, od_C15___eq__, .func (PySem.W.fnOf "__eq__" "Bound.__eq__" (defArgs s_Bound___eq__) (defBody s_Bound___eq__) (defScope s_Bound___eq__) .none kV_C15___eq__ dc_C15___eq__ pm_C15___eq__ an_C15___eq__ cd_C15___eq__ ct_C15___eq__), sl_C15___eq__⟩)
    (c_C15___eq__ : PySem.W.codeIn K cd_C15___eq__ "Bound.__eq__" = true)
    (k_C15___eq__ : PySem.W.keepIn K (.ref g_C15___eq__) = true)
    (i_C15___eq__ : PySem.W.isFn K (.ref g_C15___eq__) = true)
    (mk_C15 : PySem.W.makesIn K C15 = true)
    (kc_C15 : PySem.W.keepIn K (.ref C15) = true)
    (a_C16 : PySem.W.nsIn K mainGlobals "Endless" = some (some (.ref C16)))
    (a_C16___init__ : PySem.W.findIn K (.ref C16) "__init__" = some (some (.ref g_C16___init__)))
    (l_C16___init__ : K.lookup g_C16___init__ = some ⟨oc_C16___init__, od_C16___init__, .func (PySem.W.fnOf "__init__" "Endless.__init__" (defArgs s_Endless___init__) (defBody s_Endless___init__) (defScope s_Endless___init__) .none kV_C16___init__ dc_C16___init__ pm_C16___init__ an_C16___init__ cd_C16___init__ ct_C16___init__), sl_C16___init__⟩)
    (c_C16___init__ : PySem.W.codeIn K cd_C16___init__ "Endless.__init__" = true)
    (k_C16___init__ : PySem.W.keepIn K (.ref g_C16___init__) = true)
    (i_C16___init__ : PySem.W.isFn K (.ref g_C16___init__) = true)
    (a_C16___eq__ : PySem.W.findIn K (.ref C16) "__eq__" = some (some (.ref g_C16___eq__)))
    (l_C16___eq__ : K.lookup g_C16___eq__ = some ⟨oc_C16___eq__, od_C16___eq__, .func (PySem.W.fnOf "__eq__" "Endless.__eq__" (defArgs s_Endless___eq__) (defBody s_Endless___eq__) (defScope s_Endless___eq__) .none kV_C16___eq__ dc_C16___eq__ pm_C16___eq__ an_C16___eq__ cd_C16___eq__ ct_C16___eq__), sl_C16___eq__⟩)
    (c_C16___eq__ : PySem.W.codeIn K cd_C16___eq__ "Endless.__eq__" = true)
    (k_C16___eq__ : PySem.W.keepIn K (.ref g_C16___eq__) = true)
    (i_C16___eq__ : PySem.W.isFn K (.ref g_C16___eq__) = true)
    (mk_C16 : PySem.W.makesIn K C16 = true)
    (kc_C16 : PySem.W.keepIn K (.ref C16) = true)
    (a_C17 : PySem.W.nsIn K mainGlobals "Within" = some (some (.ref C17)))
    (a_C17___init__ : PySem.W.findIn K (.ref C17) "__init__" = some (some (.ref g_C17___init__)))
    (l_C17___init__ : K.lookup g_C17___init__ = some ⟨oc_C17___init__, od_C17___init__, .func (PySem.W.fnOf "__init__" "Within.__init__" (defArgs s_Within___init__) (defBody s_Within___init__) (defScope s_Within___init__) .none kV_C17___init__ dc_C17___init__ pm_C17___init__ an_C17___init__ cd_C17___init__ ct_C17___init__), sl_C17___init__⟩)
    (c_C17___init__ : PySem.W.codeIn K cd_C17___init__ "Within.__init__" = true)
    (k_C17___init__ : PySem.W.keepIn K (.ref g_C17___init__) = true)
    (i_C17___init__ : PySem.W.isFn K (.ref g_C17___init__) = true)
    (a_C17___eq__ : PySem.W.findIn K (.ref C17) "__eq__" = some (some (.ref g_C17___eq__)))
    (l_C17___eq__ : K.lookup g_C17___eq__ = some ⟨oc_C17___eq__, od_C17___eq__, .func (PySem.W.fnOf "__eq__" "Within.__eq__" (defArgs s_Within___eq__) (defBody s_Within___eq__) (defScope s_Within___eq__) .none kV_C17___eq__ dc_C17___eq__ pm_C17___eq__ an_C17___eq__ cd_C17___eq__ ct_C17___eq__), sl_C17___eq__⟩)
    (c_C17___eq__ : PySem.W.codeIn K cd_C17___eq__ "Within.__eq__" = true)
    (k_C17___eq__ : PySem.W.keepIn K (.ref g_C17___eq__) = true)
    (i_C17___eq__ : PySem.W.isFn K (.ref g_C17___eq__) = true)
    (mk_C17 : PySem.W.makesIn K C17 = true)
    (kc_C17 : PySem.W.keepIn K (.ref C17) = true)
    (a_C18 : PySem.W.nsIn K mainGlobals "Beyond" = some (some (.ref C18)))
    (a_C18___init__ : PySem.W.findIn K (.ref C18) "__init__" = some (some (.ref g_C18___init__)))
    (l_C18___init__ : K.lookup g_C18___init__ = some ⟨oc_C18___init__, od_C18___init__, .func (PySem.W.fnOf "__init__" "Beyond.__init__" (defArgs s_Beyond___init__) (defBody s_Beyond___init__) (defScope s_Beyond___init__) .none kV_C18___init__ dc_C18___init__ pm_C18___init__ an_C18___init__ cd_C18___init__ ct_C18___init__), sl_C18___init__⟩)
    (c_C18___init__ : PySem.W.codeIn K cd_C18___init__ "Beyond.__init__" = true)
    (k_C18___init__ : PySem.W.keepIn K (.ref g_C18___init__) = true)
    (i_C18___init__ : PySem.W.isFn K (.ref g_C18___init__) = true)
    (a_C18___eq__ : PySem.W.findIn K (.ref C18) "__eq__" = some (some (.ref g_C18___eq__)))
    (l_C18___eq__ : K.lookup g_C18___eq__ = some ⟨oc_C18___eq__, od_C18___eq__, .func (PySem.W.fnOf "__eq__" "Beyond.__eq__" (defArgs s_Beyond___eq__) (defBody s_Beyond___eq__) (defScope s_Beyond___eq__) .none kV_C18___eq__ dc_C18___eq__ pm_C18___eq__ an_C18___eq__ cd_C18___eq__ ct_C18___eq__), sl_C18___eq__⟩)
    (c_C18___eq__ : PySem.W.codeIn K cd_C18___eq__ "Beyond.__eq__" = true)
    (k_C18___eq__ : PySem.W.keepIn K (.ref g_C18___eq__) = true)
    (i_C18___eq__ : PySem.W.isFn K (.ref g_C18___eq__) = true)
    (mk_C18 : PySem.W.makesIn K C18 = true)
    (kc_C18 : PySem.W.keepIn K (.ref C18) = true)
    (a_C19 : PySem.W.nsIn K mainGlobals "Latest" = some (some (.ref C19)))
    (a_C19___init__ : PySem.W.findIn K (.ref C19) "__init__" = some (some (.ref g_C19___init__)))
    (l_C19___init__ : K.lookup g_C19___init__ = some ⟨oc_C19___init__, od_C19___init__, .func (PySem.W.fnOf "__init__" "Latest.__init__" (defArgs s_Latest___init__) (defBody s_Latest___init__) (defScope s_Latest___init__) .none kV_C19___init__ dc_C19___init__ pm_C19___init__ an_C19___init__ cd_C19___init__ ct_C19___init__), sl_C19___init__⟩)
    (c_C19___init__ : PySem.W.codeIn K cd_C19___init__ "Latest.__init__" = true)
    (k_C19___init__ : PySem.W.keepIn K (.ref g_C19___init__) = true)
    (i_C19___init__ : PySem.W.isFn K (.ref g_C19___init__) = true)
    (a_C19___eq__ : PySem.W.findIn K (.ref C19) "__eq__" = some (some (.ref g_C19___eq__)))
    (l_C19___eq__ : K.lookup g_C19___eq__ = some ⟨oc_C19___eq__, od_C19___eq__, .func (PySem.W.fnOf "__eq__" "Latest.__eq__" (defArgs s_Latest___eq__) (defBody s_Latest___eq__) (defScope s_Latest___eq__) .none kV_C19___eq__ dc_C19___eq__ pm_C19___eq__ an_C19___eq__ cd_C19___eq__ ct_C19___eq__), sl_C19___eq__⟩)
    (c_C19___eq__ : PySem.W.codeIn K cd_C19___eq__ "Latest.__eq__" = true)
    (k_C19___eq__ : PySem.W.keepIn K (.ref g_C19___eq__) = true)
    (i_C19___eq__ : PySem.W.isFn K (.ref g_C19___eq__) = true)
    (mk_C19 : PySem.W.makesIn K C19 = true)
    (kc_C19 : PySem.W.keepIn K (.ref C19) = true)
    (a_C20 : PySem.W.nsIn K mainGlobals "Taking" = some (some (.ref C20)))
    (a_C20___init__ : PySem.W.findIn K (.ref C20) "__init__" = some (some (.ref g_C20___init__)))
    (l_C20___init__ : K.lookup g_C20___init__ = some ⟨oc_C20___init__, od_C20___init__, .func (PySem.W.fnOf "__init__" "Taking.__init__" (defArgs s_Taking___init__) (defBody s_Taking___init__) (defScope s_Taking___init__) .none kV_C20___init__ dc_C20___init__ pm_C20___init__ an_C20___init__ cd_C20___init__ ct_C20___init__), sl_C20___init__⟩)
    (c_C20___init__ : PySem.W.codeIn K cd_C20___init__ "Taking.__init__" = true)
    (k_C20___init__ : PySem.W.keepIn K (.ref g_C20___init__) = true)
    (i_C20___init__ : PySem.W.isFn K (.ref g_C20___init__) = true)
    (a_C20___eq__ : PySem.W.findIn K (.ref C20) "__eq__" = some (some (.ref g_C20___eq__)))
    (l_C20___eq__ : K.lookup g_C20___eq__ = some ⟨oc_C20___eq__, od_C20___eq__, .func (PySem.W.fnOf "__eq__" "Taking.__eq__" (defArgs s_Taking___eq__) (defBody s_Taking___eq__) (defScope s_Taking___eq__) .none kV_C20___eq__ dc_C20___eq__ pm_C20___eq__ an_C20___eq__ cd_C20___eq__ ct_C20___eq__), sl_C20___eq__⟩)
    (c_C20___eq__ : PySem.W.codeIn K cd_C20___eq__ "Taking.__eq__" = true)
    (k_C20___eq__ : PySem.W.keepIn K (.ref g_C20___eq__) = true)
    (i_C20___eq__ : PySem.W.isFn K (.ref g_C20___eq__) = true)
    (mk_C20 : PySem.W.makesIn K C20 = true)
    (kc_C20 : PySem.W.keepIn K (.ref C20) = true)
    (a_C21 : PySem.W.nsIn K mainGlobals "Fits" = some (some (.ref C21)))
    (a_C21___init__ : PySem.W.findIn K (.ref C21) "__init__" = some (some (.ref g_C21___init__)))
    (l_C21___init__ : K.lookup g_C21___init__ = some ⟨oc_C21___init__, od_C21___init__, .func (PySem.W.fnOf "__init__" "Fits.__init__" (defArgs s_Fits___init__) (defBody s_Fits___init__) (defScope s_Fits___init__) .none kV_C21___init__ dc_C21___init__ pm_C21___init__ an_C21___init__ cd_C21___init__ ct_C21___init__), sl_C21___init__⟩)
    (c_C21___init__ : PySem.W.codeIn K cd_C21___init__ "Fits.__init__" = true)
    (k_C21___init__ : PySem.W.keepIn K (.ref g_C21___init__) = true)
    (i_C21___init__ : PySem.W.isFn K (.ref g_C21___init__) = true)
    (a_C21___eq__ : PySem.W.findIn K (.ref C21) "__eq__" = some (some (.ref g_C21___eq__)))
    (l_C21___eq__ : K.lookup g_C21___eq__ = some ⟨oc_C21___eq__, od_C21___eq__, .func (PySem.W.fnOf "__eq__" "Fits.__eq__" (defArgs s_Fits___eq__) (defBody s_Fits___eq__) (defScope s_Fits___eq__) .none kV_C21___eq__ dc_C21___eq__ pm_C21___eq__ an_C21___eq__ cd_C21___eq__ ct_C21___eq__), sl_C21___eq__⟩)
    (c_C21___eq__ : PySem.W.codeIn K cd_C21___eq__ "Fits.__eq__" = true)
    (k_C21___eq__ : PySem.W.keepIn K (.ref g_C21___eq__) = true)
    (i_C21___eq__ : PySem.W.isFn K (.ref g_C21___eq__) = true)
    (mk_C21 : PySem.W.makesIn K C21 = true)
    (kc_C21 : PySem.W.keepIn K (.ref C21) = true)
    (a_C22 : PySem.W.nsIn K mainGlobals "Misfit" = some (some (.ref C22)))
    (a_C22___init__ : PySem.W.findIn K (.ref C22) "__init__" = some (some (.ref g_C22___init__)))
    (l_C22___init__ : K.lookup g_C22___init__ = some ⟨oc_C22___init__, od_C22___init__, .func (PySem.W.fnOf "__init__" "Misfit.__init__" (defArgs s_Misfit___init__) (defBody s_Misfit___init__) (defScope s_Misfit___init__) .none kV_C22___init__ dc_C22___init__ pm_C22___init__ an_C22___init__ cd_C22___init__ ct_C22___init__), sl_C22___init__⟩)
    (c_C22___init__ : PySem.W.codeIn K cd_C22___init__ "Misfit.__init__" = true)
    (k_C22___init__ : PySem.W.keepIn K (.ref g_C22___init__) = true)
    (i_C22___init__ : PySem.W.isFn K (.ref g_C22___init__) = true)
    (a_C22___eq__ : PySem.W.findIn K (.ref C22) "__eq__" = some (some (.ref g_C22___eq__)))
    (l_C22___eq__ : K.lookup g_C22___eq__ = some ⟨oc_C22___eq__, od_C22___eq__, .func (PySem.W.fnOf "__eq__" "Misfit.__eq__" (defArgs s_Misfit___eq__) (defBody s_Misfit___eq__) (defScope s_Misfit___eq__) .none kV_C22___eq__ dc_C22___eq__ pm_C22___eq__ an_C22___eq__ cd_C22___eq__ ct_C22___eq__), sl_C22___eq__⟩)
    (c_C22___eq__ : PySem.W.codeIn K cd_C22___eq__ "Misfit.__eq__" = true)
    (k_C22___eq__ : PySem.W.keepIn K (.ref g_C22___eq__) = true)
    (i_C22___eq__ : PySem.W.isFn K (.ref g_C22___eq__) = true)
    (mk_C22 : PySem.W.makesIn K C22 = true)
    (kc_C22 : PySem.W.keepIn K (.ref C22) = true)
    (a_C23 : PySem.W.nsIn K mainGlobals "Ring" = some (some (.ref C23)))
    (a_C23___init__ : PySem.W.findIn K (.ref C23) "__init__" = some (some (.ref g_C23___init__)))
    (l_C23___init__ : K.lookup g_C23___init__ = some ⟨oc_C23___init__, od_C23___init__, .func (PySem.W.fnOf "__init__" "Ring.__init__" (defArgs s_Ring___init__) (defBody s_Ring___init__) (defScope s_Ring___init__) .none kV_C23___init__ dc_C23___init__ pm_C23___init__ an_C23___init__ cd_C23___init__ ct_C23___init__), sl_C23___init__⟩)
    (c_C23___init__ : PySem.W.codeIn K cd_C23___init__ "Ring.__init__" = true)
    (k_C23___init__ : PySem.W.keepIn K (.ref g_C23___init__) = true)
    (i_C23___init__ : PySem.W.isFn K (.ref g_C23___init__) = true)
    (a_C23___eq__ : PySem.W.findIn K (.ref C23) "__eq__" = some (some (.ref g_C23___eq__)))
    (l_C23___eq__ : K.lookup g_C23___eq__ = some ⟨oc_C23___eq__, od_C23___eq__, .func (PySem.W.fnOf "__eq__" "Ring.__eq__" (defArgs s_Ring___eq__) (defBody s_Ring___eq__) (defScope s_Ring___eq__) .none kV_C23___eq__ dc_C23___eq__ pm_C23___eq__ an_C23___eq__ cd_C23___eq__ ct_C23___eq__), sl_C23___eq__⟩)
    (c_C23___eq__ : PySem.W.codeIn K cd_C23___eq__ "Ring.__eq__" = true)
    (k_C23___eq__ : PySem.W.keepIn K (.ref g_C23___eq__) = true)
    (i_C23___eq__ : PySem.W.isFn K (.ref g_C23___eq__) = true)
    (mk_C23 : PySem.W.makesIn K C23 = true)
    (kc_C23 : PySem.W.keepIn K (.ref C23) = true)
    (a_C24 : PySem.W.nsIn K mainGlobals "Came" = some (some (.ref C24)))
    (a_C24___init__ : PySem.W.findIn K (.ref C24) "__init__" = some (some (.ref g_C24___init__)))
    (l_C24___init__ : K.lookup g_C24___init__ = some ⟨oc_C24___init__, od_C24___init__, .func (PySem.W.fnOf "__init__" "Came.__init__" (defArgs s_Came___init__) (defBody s_Came___init__) (defScope s_Came___init__) .none kV_C24___init__ dc_C24___init__ pm_C24___init__ an_C24___init__ cd_C24___init__ ct_C24___init__), sl_C24___init__⟩)
    (c_C24___init__ : PySem.W.codeIn K cd_C24___init__ "Came.__init__" = true)
    (k_C24___init__ : PySem.W.keepIn K (.ref g_C24___init__) = true)
    (i_C24___init__ : PySem.W.isFn K (.ref g_C24___init__) = true)
    (a_C24___eq__ : PySem.W.findIn K (.ref C24) "__eq__" = some (some (.ref g_C24___eq__)))
    (l_C24___eq__ : K.lookup g_C24___eq__ = some ⟨oc_C24___eq__, od_C24___eq__, .func (PySem.W.fnOf "__eq__" "Came.__eq__" (defArgs s_Came___eq__) (defBody s_Came___eq__) (defScope s_Came___eq__) .none kV_C24___eq__ dc_C24___eq__ pm_C24___eq__ an_C24___eq__ cd_C24___eq__ ct_C24___eq__), sl_C24___eq__⟩)
    (c_C24___eq__ : PySem.W.codeIn K cd_C24___eq__ "Came.__eq__" = true)
    (k_C24___eq__ : PySem.W.keepIn K (.ref g_C24___eq__) = true)
    (i_C24___eq__ : PySem.W.isFn K (.ref g_C24___eq__) = true)
    (mk_C24 : PySem.W.makesIn K C24 = true)
    (kc_C24 : PySem.W.keepIn K (.ref C24) = true)
    (a_C25 : PySem.W.nsIn K mainGlobals "BestOrder" = some (some (.ref C25)))
    (a_C25___init__ : PySem.W.findIn K (.ref C25) "__init__" = some (some (.ref g_C25___init__)))
    (l_C25___init__ : K.lookup g_C25___init__ = some ⟨oc_C25___init__, od_C25___init__, .func (PySem.W.fnOf "__init__" "BestOrder.__init__" (defArgs s_BestOrder___init__) (defBody s_BestOrder___init__) (defScope s_BestOrder___init__) .none kV_C25___init__ dc_C25___init__ pm_C25___init__ an_C25___init__ cd_C25___init__ ct_C25___init__), sl_C25___init__⟩)
    (c_C25___init__ : PySem.W.codeIn K cd_C25___init__ "BestOrder.__init__" = true)
    (k_C25___init__ : PySem.W.keepIn K (.ref g_C25___init__) = true)
    (i_C25___init__ : PySem.W.isFn K (.ref g_C25___init__) = true)
    (a_C25___eq__ : PySem.W.findIn K (.ref C25) "__eq__" = some (some (.ref g_C25___eq__)))
    (l_C25___eq__ : K.lookup g_C25___eq__ = some ⟨oc_C25___eq__, od_C25___eq__, .func (PySem.W.fnOf "__eq__" "BestOrder.__eq__" (defArgs s_BestOrder___eq__) (defBody s_BestOrder___eq__) (defScope s_BestOrder___eq__) .none kV_C25___eq__ dc_C25___eq__ pm_C25___eq__ an_C25___eq__ cd_C25___eq__ ct_C25___eq__), sl_C25___eq__⟩)
    (c_C25___eq__ : PySem.W.codeIn K cd_C25___eq__ "BestOrder.__eq__" = true)
    (k_C25___eq__ : PySem.W.keepIn K (.ref g_C25___eq__) = true)
    (i_C25___eq__ : PySem.W.isFn K (.ref g_C25___eq__) = true)
    (mk_C25 : PySem.W.makesIn K C25 = true)
    (kc_C25 : PySem.W.keepIn K (.ref C25) = true)
    (a_C26 : PySem.W.nsIn K mainGlobals "PoolTaking" = some (some (.ref C26)))
    (a_C26___init__ : PySem.W.findIn K (.ref C26) "__init__" = some (some (.ref g_C26___init__)))
    (l_C26___init__ : K.lookup g_C26___init__ = some ⟨oc_C26___init__, od_C26___init__, .func (PySem.W.fnOf "__init__" "PoolTaking.__init__" (defArgs s_PoolTaking___init__) (defBody s_PoolTaking___init__) (defScope s_PoolTaking___init__) .none kV_C26___init__ dc_C26___init__ pm_C26___init__ an_C26___init__ cd_C26___init__ ct_C26___init__), sl_C26___init__⟩)
    (c_C26___init__ : PySem.W.codeIn K cd_C26___init__ "PoolTaking.__init__" = true)
    (k_C26___init__ : PySem.W.keepIn K (.ref g_C26___init__) = true)
    (i_C26___init__ : PySem.W.isFn K (.ref g_C26___init__) = true)
    (a_C26___eq__ : PySem.W.findIn K (.ref C26) "__eq__" = some (some (.ref g_C26___eq__)))
    (l_C26___eq__ : K.lookup g_C26___eq__ = some ⟨oc_C26___eq__, od_C26___eq__, .func (PySem.W.fnOf "__eq__" "PoolTaking.__eq__" (defArgs s_PoolTaking___eq__) (defBody s_PoolTaking___eq__) (defScope s_PoolTaking___eq__) .none kV_C26___eq__ dc_C26___eq__ pm_C26___eq__ an_C26___eq__ cd_C26___eq__ ct_C26___eq__), sl_C26___eq__⟩)
    (c_C26___eq__ : PySem.W.codeIn K cd_C26___eq__ "PoolTaking.__eq__" = true)
    (k_C26___eq__ : PySem.W.keepIn K (.ref g_C26___eq__) = true)
    (i_C26___eq__ : PySem.W.isFn K (.ref g_C26___eq__) = true)
    (a_C26_own_row : PySem.W.findIn K (.ref C26) "own_row" = some (some (.ref g_C26_own_row)))
    (l_C26_own_row : K.lookup g_C26_own_row = some ⟨oc_C26_own_row, od_C26_own_row, .func (PySem.W.fnOf "own_row" "PoolTaking.own_row" (defArgs s_PoolTaking_own_row) (defBody s_PoolTaking_own_row) (defScope s_PoolTaking_own_row) .none kV_C26_own_row dc_C26_own_row pm_C26_own_row an_C26_own_row cd_C26_own_row ct_C26_own_row), sl_C26_own_row⟩)
    (c_C26_own_row : PySem.W.codeIn K cd_C26_own_row "PoolTaking.own_row" = true)
    (k_C26_own_row : PySem.W.keepIn K (.ref g_C26_own_row) = true)
    (i_C26_own_row : PySem.W.isFn K (.ref g_C26_own_row) = true)
    (mk_C26 : PySem.W.makesIn K C26 = true)
    (kc_C26 : PySem.W.keepIn K (.ref C26) = true)
    (yb : PySem.W.specialIn K (.builtin "object.__class__") "__get__" = some (some (.builtin "getset_descriptor.__get__")))
    (yc : PySem.W.takesIn K (.builtin "object.__class__") = some true)
    (clA : [C0, C1, C2, C3, C4, C5, C6, C7, C8, C9, C10, C11, C12, C13, C14, C15, C16, C17, C18, C19, C20, C21, C22, C23, C24, C25, C26].all (clB K) = true)
    (tyA : [C0, C1, C2, C3, C4, C5, C6, C7, C8, C9, C10, C11, C12, C13, C14, C15, C16, C17, C18, C19, C20, C21, C22, C23, C24, C25, C26].all (tyB K) = true)
    (cmA : [C0, C1, C2, C3, C4, C5, C6, C7, C8, C9, C10, C11, C12, C13, C14, C15, C16, C17, C18, C19, C20, C21, C22, C23, C24, C25, C26].all (cmB K) = true)
    (boA : ((List.range 27).all fun j => boB K g_CD___bool__ ([C0, C1, C2, C3, C4, C5, C6, C7, C8, C9, C10, C11, C12, C13, C14, C15, C16, C17, C18, C19, C20, C21, C22, C23, C24, C25, C26].getD j 0) (den j)) = true)
    (kitA : ((List.range 27).all fun i => (List.range 27).all fun j => decide (PySem.W.kitOne K (.ref ([C0, C1, C2, C3, C4, C5, C6, C7, C8, C9, C10, C11, C12, C13, C14, C15, C16, C17, C18, C19, C20, C21, C22, C23, C24, C25, C26].getD i 0)) (.ref ([C0, C1, C2, C3, C4, C5, C6, C7, C8, C9, C10, C11, C12, C13, C14, C15, C16, C17, C18, C19, C20, C21, C22, C23, C24, C25, C26].getD j 0)) = some (decide (i = j)))) = true)
    (kitPA : ((List.range 27).all fun i => decide (PySem.W.kitOne K (.ref ([C0, C1, C2, C3, C4, C5, C6, C7, C8, C9, C10, C11, C12, C13, C14, C15, C16, C17, C18, C19, C20, C21, C22, C23, C24, C25, C26].getD i 0)) (.ref CP) = some true)) = true)
    (kitDA : ((List.range 27).all fun i => decide (PySem.W.kitOne K (.ref ([C0, C1, C2, C3, C4, C5, C6, C7, C8, C9, C10, C11, C12, C13, C14, C15, C16, C17, C18, C19, C20, C21, C22, C23, C24, C25, C26].getD i 0)) (.ref CD) = some (den i))) = true)
    (kitLA : ((List.range 27).all fun i => decide (PySem.W.kitOne K (.type "list") (.ref ([C0, C1, C2, C3, C4, C5, C6, C7, C8, C9, C10, C11, C12, C13, C14, C15, C16, C17, C18, C19, C20, C21, C22, C23, C24, C25, C26].getD i 0)) = some false)) = true)
    (fldA : ((List.range 27).all fun j => (flds j).all fun g => decide (PySem.W.findIn K (.ref ([C0, C1, C2, C3, C4, C5, C6, C7, C8, C9, C10, C11, C12, C13, C14, C15, C16, C17, C18, C19, C20, C21, C22, C23, C24, C25, C26].getD j 0)) g = some none)) = true)
    (nfA : ((List.range 27).all fun i => (List.range 27).all fun j => PySem.W.notFirst K ([C0, C1, C2, C3, C4, C5, C6, C7, C8, C9, C10, C11, C12, C13, C14, C15, C16, C17, C18, C19, C20, C21, C22, C23, C24, C25, C26].getD i 0) (.ref ([C0, C1, C2, C3, C4, C5, C6, C7, C8, C9, C10, C11, C12, C13, C14, C15, C16, C17, C18, C19, C20, C21, C22, C23, C24, C25, C26].getD j 0))) = true)
    (z_isinstance : PySem.W.nsIn K mainGlobals "isinstance" = some none)
    (z_int : PySem.W.nsIn K mainGlobals "int" = some none)
    (z_len : PySem.W.nsIn K mainGlobals "len" = some none)
    (z_abs : PySem.W.nsIn K mainGlobals "abs" = some none)
    (z_list : PySem.W.nsIn K mainGlobals "list" = some none)
    (z_range : PySem.W.nsIn K mainGlobals "range" = some none)
    (z_repr : PySem.W.nsIn K mainGlobals "repr" = some none)
    (z_bool : PySem.W.nsIn K mainGlobals "bool" = some none)
    (hCPt : PySem.W.codeHdIn K ct0 Pt = true)
    (nPPt : K.lookup Pt = none)
    (tPPt : h.get? Pt = some { cls := .none, data := .fields #[] })
    (hPd0 : [Pt].Nodup)
    : LawG l w K CX0 6 63 "_law_script" mg fa h := by
  have e := hfa.symm.trans (PySem.W.mg_of X G a6)
  cases e
  have hPd : (([(Pt, lamQ1)] : List (Addr × Str)).map (·.1)).Nodup := hPd0
  have T : Txt K mg [C0, C1, C2, C3, C4, C5, C6, C7, C8, C9, C10, C11, C12, C13, C14, C15, C16, C17, C18, C19, C20, C21, C22, C23, C24, C25, C26] CP CD g_CD___bool__ := ⟨PySem.W.mg_none_of X G z_isinstance, PySem.W.mg_none_of X G z_int, PySem.W.mg_none_of X G z_len, PySem.W.mg_none_of X G z_abs, PySem.W.mg_none_of X G z_list, PySem.W.mg_none_of X G z_range, PySem.W.mg_none_of X G z_repr, PySem.W.mg_none_of X G z_bool, ⟨_, PySem.W.mg_of X G a_CP, rfl⟩, ⟨_, PySem.W.mg_of X G a_CD, rfl⟩, ⟨_, PySem.W.mg_of X G a_C0, rfl⟩, ⟨_, PySem.W.mg_of X G a_C1, rfl⟩, ⟨_, PySem.W.mg_of X G a_C2, rfl⟩, ⟨_, PySem.W.mg_of X G a_C3, rfl⟩, ⟨_, PySem.W.mg_of X G a_C4, rfl⟩, ⟨_, PySem.W.mg_of X G a_C5, rfl⟩, ⟨_, PySem.W.mg_of X G a_C6, rfl⟩, ⟨_, PySem.W.mg_of X G a_C7, rfl⟩, ⟨_, PySem.W.mg_of X G a_C8, rfl⟩, ⟨_, PySem.W.mg_of X G a_C9, rfl⟩, ⟨_, PySem.W.mg_of X G a_C10, rfl⟩, ⟨_, PySem.W.mg_of X G a_C11, rfl⟩, ⟨_, PySem.W.mg_of X G a_C12, rfl⟩, ⟨_, PySem.W.mg_of X G a_C13, rfl⟩, ⟨_, PySem.W.mg_of X G a_C14, rfl⟩, ⟨_, PySem.W.mg_of X G a_C15, rfl⟩, ⟨_, PySem.W.mg_of X G a_C16, rfl⟩, ⟨_, PySem.W.mg_of X G a_C17, rfl⟩, ⟨_, PySem.W.mg_of X G a_C18, rfl⟩, ⟨_, PySem.W.mg_of X G a_C19, rfl⟩, ⟨_, PySem.W.mg_of X G a_C20, rfl⟩, ⟨_, PySem.W.mg_of X G a_C21, rfl⟩, ⟨_, PySem.W.mg_of X G a_C22, rfl⟩, ⟨_, PySem.W.mg_of X G a_C23, rfl⟩, ⟨_, PySem.W.mg_of X G a_C24, rfl⟩, ⟨_, PySem.W.mg_of X G a_C25, rfl⟩, ⟨_, PySem.W.mg_of X G a_C26, rfl⟩, rfl,
    (fun j hj => clB_ok (List.all_eq_true.mp clA _ (getD_mem' (l := [C0, C1, C2, C3, C4, C5, C6, C7, C8, C9, C10, C11, C12, C13, C14, C15, C16, C17, C18, C19, C20, C21, C22, C23, C24, C25, C26]) hj))), (fun j hj => tyB_ok (List.all_eq_true.mp tyA _ (getD_mem' (l := [C0, C1, C2, C3, C4, C5, C6, C7, C8, C9, C10, C11, C12, C13, C14, C15, C16, C17, C18, C19, C20, C21, C22, C23, C24, C25, C26]) hj))), yb, yc, (fun i j hi hj => of_decide_eq_true (allR (allR kitA i hi) j hj)), (fun i hi => of_decide_eq_true (allR kitPA i hi)), (fun i hi => of_decide_eq_true (allR kitDA i hi)), (fun i hi => of_decide_eq_true (allR kitLA i hi)),
    (fun j hj g hg => (show PySem.W.findIn K _ g = some none from of_decide_eq_true (List.all_eq_true.mp (allR fldA j hj) g hg))), (fun j hj => cmB_ok (List.all_eq_true.mp cmA _ (getD_mem' (l := [C0, C1, C2, C3, C4, C5, C6, C7, C8, C9, C10, C11, C12, C13, C14, C15, C16, C17, C18, C19, C20, C21, C22, C23, C24, C25, C26]) hj))), (fun i j hi hj => allR (allR nfA i hi) j hj), (fun j hj => boB_ok (allR boA j hj))⟩
  have F1 := fun_mk (st := s__law_pen) l1 c1 k1
  have F2 := fun_mk (st := s__law_draw) l2 c2 k2
  have F3 := fun_mk (st := s__law_pick) l3 c3 k3
  have F4 := fun_mk (st := s__law_value) l4 c4 k4
  have F5 : FunC K "_law_made" "_law_made" s__law_made ct0 f5 _ := ⟨⟨_, _, _, _, _, _, _, _, rfl, l5, c5⟩⟩
  have F6 := fun_mk (st := s_law) l6 c6 k6
  have F_CD___bool__ := fun_mk l_CD___bool__ c_CD___bool__ k_CD___bool__
  have F_C0___init__ := fun_mk l_C0___init__ c_C0___init__ k_C0___init__
  have F_C0___eq__ := fun_mk l_C0___eq__ c_C0___eq__ k_C0___eq__
  have F_C1___init__ := fun_mk l_C1___init__ c_C1___init__ k_C1___init__
  have F_C1___eq__ := fun_mk l_C1___eq__ c_C1___eq__ k_C1___eq__
  have F_C2___init__ := fun_mk l_C2___init__ c_C2___init__ k_C2___init__
  have F_C2___eq__ := fun_mk l_C2___eq__ c_C2___eq__ k_C2___eq__
  have F_C3___init__ := fun_mk l_C3___init__ c_C3___init__ k_C3___init__
  have F_C3___eq__ := fun_mk l_C3___eq__ c_C3___eq__ k_C3___eq__
  have F_C4___init__ := fun_mk l_C4___init__ c_C4___init__ k_C4___init__
  have F_C4___eq__ := fun_mk l_C4___eq__ c_C4___eq__ k_C4___eq__
  have F_C5___init__ := fun_mk l_C5___init__ c_C5___init__ k_C5___init__
  have F_C5___eq__ := fun_mk l_C5___eq__ c_C5___eq__ k_C5___eq__
  have F_C6___init__ := fun_mk l_C6___init__ c_C6___init__ k_C6___init__
  have F_C6___eq__ := fun_mk l_C6___eq__ c_C6___eq__ k_C6___eq__
  have F_C7___init__ := fun_mk l_C7___init__ c_C7___init__ k_C7___init__
  have F_C7___eq__ := fun_mk l_C7___eq__ c_C7___eq__ k_C7___eq__
  have F_C8___init__ := fun_mk l_C8___init__ c_C8___init__ k_C8___init__
  have F_C8___eq__ := fun_mk l_C8___eq__ c_C8___eq__ k_C8___eq__
  have F_C9___init__ := fun_mk l_C9___init__ c_C9___init__ k_C9___init__
  have F_C9___eq__ := fun_mk l_C9___eq__ c_C9___eq__ k_C9___eq__
  have F_C10___init__ := fun_mk l_C10___init__ c_C10___init__ k_C10___init__
  have F_C10___eq__ := fun_mk l_C10___eq__ c_C10___eq__ k_C10___eq__
  have F_C11___init__ := fun_mk l_C11___init__ c_C11___init__ k_C11___init__
  have F_C11___eq__ := fun_mk l_C11___eq__ c_C11___eq__ k_C11___eq__
  have F_C12___init__ := fun_mk l_C12___init__ c_C12___init__ k_C12___init__
  have F_C12___eq__ := fun_mk l_C12___eq__ c_C12___eq__ k_C12___eq__
  have F_C13___init__ := fun_mk l_C13___init__ c_C13___init__ k_C13___init__
  have F_C13___eq__ := fun_mk l_C13___eq__ c_C13___eq__ k_C13___eq__
  have F_C14___init__ := fun_mk l_C14___init__ c_C14___init__ k_C14___init__
  have F_C14___eq__ := fun_mk l_C14___eq__ c_C14___eq__ k_C14___eq__
  have F_C15___init__ := fun_mk l_C15___init__ c_C15___init__ k_C15___init__
  have F_C15___eq__ := fun_mk l_C15___eq__ c_C15___eq__ k_C15___eq__
  have F_C16___init__ := fun_mk l_C16___init__ c_C16___init__ k_C16___init__
  have F_C16___eq__ := fun_mk l_C16___eq__ c_C16___eq__ k_C16___eq__
  have F_C17___init__ := fun_mk l_C17___init__ c_C17___init__ k_C17___init__
  have F_C17___eq__ := fun_mk l_C17___eq__ c_C17___eq__ k_C17___eq__
  have F_C18___init__ := fun_mk l_C18___init__ c_C18___init__ k_C18___init__
  have F_C18___eq__ := fun_mk l_C18___eq__ c_C18___eq__ k_C18___eq__
  have F_C19___init__ := fun_mk l_C19___init__ c_C19___init__ k_C19___init__
  have F_C19___eq__ := fun_mk l_C19___eq__ c_C19___eq__ k_C19___eq__
  have F_C20___init__ := fun_mk l_C20___init__ c_C20___init__ k_C20___init__
  have F_C20___eq__ := fun_mk l_C20___eq__ c_C20___eq__ k_C20___eq__
  have F_C21___init__ := fun_mk l_C21___init__ c_C21___init__ k_C21___init__
  have F_C21___eq__ := fun_mk l_C21___eq__ c_C21___eq__ k_C21___eq__
  have F_C22___init__ := fun_mk l_C22___init__ c_C22___init__ k_C22___init__
  have F_C22___eq__ := fun_mk l_C22___eq__ c_C22___eq__ k_C22___eq__
  have F_C23___init__ := fun_mk l_C23___init__ c_C23___init__ k_C23___init__
  have F_C23___eq__ := fun_mk l_C23___eq__ c_C23___eq__ k_C23___eq__
  have F_C24___init__ := fun_mk l_C24___init__ c_C24___init__ k_C24___init__
  have F_C24___eq__ := fun_mk l_C24___eq__ c_C24___eq__ k_C24___eq__
  have F_C25___init__ := fun_mk l_C25___init__ c_C25___init__ k_C25___init__
  have F_C25___eq__ := fun_mk l_C25___eq__ c_C25___eq__ k_C25___eq__
  have F_C26___init__ := fun_mk l_C26___init__ c_C26___init__ k_C26___init__
  have F_C26___eq__ := fun_mk l_C26___eq__ c_C26___eq__ k_C26___eq__
  have F_C26_own_row := fun_mk l_C26_own_row c_C26_own_row k_C26_own_row
  refine ⟨PySem.W.fnOf "law" "law" (defArgs s_law) (defBody s_law) (defScope s_law) .none kV6 dc6 pm6 an6 cd6 ct6, [(ct0, Pt)], spLaw K [(Pt, lamQ1)], ?_, ?_, ?_, (fun s u => BindsTo.of_eq rfl), ?_, fun base kb nb tb => ?_⟩
  · intro p hp
    simp only [List.mem_cons, List.not_mem_nil, or_false] at hp
    rcases hp with rfl
    · exact tPPt
  · intro p hp
    simp only [List.mem_cons, List.not_mem_nil, or_false] at hp
    rcases hp with rfl
    · exact nPPt
  · intro p hp
    simp only [List.mem_cons, List.not_mem_nil, or_false] at hp
    rcases hp with rfl
    · exact PySem.W.codeHd_of_K X hCPt
  · intro H a ns hl hH hS
    refine ⟨a, ns, rfl, hS, hl, (fun p hp => ?_), fun _ => rfl⟩
    simp only [List.mem_cons, List.not_mem_nil, or_false] at hp
    rcases hp with rfl
    · exact tab0 (hH _ List.mem_cons_self)
  have o_C0 := ok_init_Fewest (P := l.prog) (w := w) (base := base) F_C0___init__ T
  have m_Fewest_1 : McO l.prog w K mg base (L2.CX l.prog w) 1 "Fewest" ([C0, C1, C2, C3, C4, C5, C6, C7, C8, C9, C10, C11, C12, C13, C14, C15, C16, C17, C18, C19, C20, C21, C22, C23, C24, C25, C26].getD 0 0) ["self", "chunks"] (spInit ([C0, C1, C2, C3, C4, C5, C6, C7, C8, C9, C10, C11, C12, C13, C14, C15, C16, C17, C18, C19, C20, C21, C22, C23, C24, C25, C26].getD 0 0) ["chunks"]) [] := ⟨⟨g_C0___init__, _, _, o_C0, PySem.W.mg_of X G a_C0, ⟨mk_C0, a_C0___init__, i_C0___init__, kc_C0⟩, bMk F_C0___init__ (fun _ _ _ _ _ _ us hl => match us, hl with | [_, _], _ => rfl), .nil⟩⟩
  have o_C1 := ok_init_NoList (P := l.prog) (w := w) (base := base) F_C1___init__ T
  have m_NoList_1 : McO l.prog w K mg base (L2.CX l.prog w) 1 "NoList" ([C0, C1, C2, C3, C4, C5, C6, C7, C8, C9, C10, C11, C12, C13, C14, C15, C16, C17, C18, C19, C20, C21, C22, C23, C24, C25, C26].getD 1 0) ["self", "rests"] (spInit ([C0, C1, C2, C3, C4, C5, C6, C7, C8, C9, C10, C11, C12, C13, C14, C15, C16, C17, C18, C19, C20, C21, C22, C23, C24, C25, C26].getD 1 0) ["rests"]) [] := ⟨⟨g_C1___init__, _, _, o_C1, PySem.W.mg_of X G a_C1, ⟨mk_C1, a_C1___init__, i_C1___init__, kc_C1⟩, bMk F_C1___init__ (fun _ _ _ _ _ _ us hl => match us, hl with | [_, _], _ => rfl), .nil⟩⟩
  have o_C2 := ok_init_Greatest (P := l.prog) (w := w) (base := base) F_C2___init__ T
  have m_Greatest_2 : McO l.prog w K mg base (L2.CX l.prog w) 1 "Greatest" ([C0, C1, C2, C3, C4, C5, C6, C7, C8, C9, C10, C11, C12, C13, C14, C15, C16, C17, C18, C19, C20, C21, C22, C23, C24, C25, C26].getD 2 0) ["self", "total", "chunks"] (spInit ([C0, C1, C2, C3, C4, C5, C6, C7, C8, C9, C10, C11, C12, C13, C14, C15, C16, C17, C18, C19, C20, C21, C22, C23, C24, C25, C26].getD 2 0) ["total", "chunks"]) [] := ⟨⟨g_C2___init__, _, _, o_C2, PySem.W.mg_of X G a_C2, ⟨mk_C2, a_C2___init__, i_C2___init__, kc_C2⟩, bMk F_C2___init__ (fun _ _ _ _ _ _ us hl => match us, hl with | [_, _, _], _ => rfl), .nil⟩⟩
  have o_C3 := ok_init_Least (P := l.prog) (w := w) (base := base) F_C3___init__ T
  have m_Least_3 : McO l.prog w K mg base (L2.CX l.prog w) 1 "Least" ([C0, C1, C2, C3, C4, C5, C6, C7, C8, C9, C10, C11, C12, C13, C14, C15, C16, C17, C18, C19, C20, C21, C22, C23, C24, C25, C26].getD 3 0) ["self", "limit", "chunks", "below"] (spInit ([C0, C1, C2, C3, C4, C5, C6, C7, C8, C9, C10, C11, C12, C13, C14, C15, C16, C17, C18, C19, C20, C21, C22, C23, C24, C25, C26].getD 3 0) ["limit", "chunks", "below"]) [] := ⟨⟨g_C3___init__, _, _, o_C3, PySem.W.mg_of X G a_C3, ⟨mk_C3, a_C3___init__, i_C3___init__, kc_C3⟩, bMk F_C3___init__ (fun _ _ _ _ _ _ us hl => match us, hl with | [_, _, _, _], _ => rfl), .nil⟩⟩
  have o_C4 := ok_init_BatchBound (P := l.prog) (w := w) (base := base) F_C4___init__ T
  have m_BatchBound_3 : McO l.prog w K mg base (L2.CX l.prog w) 1 "BatchBound" ([C0, C1, C2, C3, C4, C5, C6, C7, C8, C9, C10, C11, C12, C13, C14, C15, C16, C17, C18, C19, C20, C21, C22, C23, C24, C25, C26].getD 4 0) ["self", "late", "rest", "spot"] (spInit ([C0, C1, C2, C3, C4, C5, C6, C7, C8, C9, C10, C11, C12, C13, C14, C15, C16, C17, C18, C19, C20, C21, C22, C23, C24, C25, C26].getD 4 0) ["late", "rest", "spot"]) [] := ⟨⟨g_C4___init__, _, _, o_C4, PySem.W.mg_of X G a_C4, ⟨mk_C4, a_C4___init__, i_C4___init__, kc_C4⟩, bMk F_C4___init__ (fun _ _ _ _ _ _ us hl => match us, hl with | [_, _, _, _], _ => rfl), .nil⟩⟩
  have o_C5 := ok_init_BatchEndless (P := l.prog) (w := w) (base := base) F_C5___init__ T
  have m_BatchEndless_2 : McO l.prog w K mg base (L2.CX l.prog w) 1 "BatchEndless" ([C0, C1, C2, C3, C4, C5, C6, C7, C8, C9, C10, C11, C12, C13, C14, C15, C16, C17, C18, C19, C20, C21, C22, C23, C24, C25, C26].getD 5 0) ["self", "spot", "rise"] (spInit ([C0, C1, C2, C3, C4, C5, C6, C7, C8, C9, C10, C11, C12, C13, C14, C15, C16, C17, C18, C19, C20, C21, C22, C23, C24, C25, C26].getD 5 0) ["spot", "rise"]) [] := ⟨⟨g_C5___init__, _, _, o_C5, PySem.W.mg_of X G a_C5, ⟨mk_C5, a_C5___init__, i_C5___init__, kc_C5⟩, bMk F_C5___init__ (fun _ _ _ _ _ _ us hl => match us, hl with | [_, _, _], _ => rfl), .nil⟩⟩
  have o_C6 := ok_init_NeverLess (P := l.prog) (w := w) (base := base) F_C6___init__ T
  have m_NeverLess_1 : McO l.prog w K mg base (L2.CX l.prog w) 1 "NeverLess" ([C0, C1, C2, C3, C4, C5, C6, C7, C8, C9, C10, C11, C12, C13, C14, C15, C16, C17, C18, C19, C20, C21, C22, C23, C24, C25, C26].getD 6 0) ["self", "begins"] (spInit ([C0, C1, C2, C3, C4, C5, C6, C7, C8, C9, C10, C11, C12, C13, C14, C15, C16, C17, C18, C19, C20, C21, C22, C23, C24, C25, C26].getD 6 0) ["begins"]) [] := ⟨⟨g_C6___init__, _, _, o_C6, PySem.W.mg_of X G a_C6, ⟨mk_C6, a_C6___init__, i_C6___init__, kc_C6⟩, bMk F_C6___init__ (fun _ _ _ _ _ _ us hl => match us, hl with | [_, _], _ => rfl), .nil⟩⟩
  have o_C7 := ok_init_Less (P := l.prog) (w := w) (base := base) F_C7___init__ T
  have m_Less_1 : McO l.prog w K mg base (L2.CX l.prog w) 1 "Less" ([C0, C1, C2, C3, C4, C5, C6, C7, C8, C9, C10, C11, C12, C13, C14, C15, C16, C17, C18, C19, C20, C21, C22, C23, C24, C25, C26].getD 7 0) ["self", "rest"] (spInit ([C0, C1, C2, C3, C4, C5, C6, C7, C8, C9, C10, C11, C12, C13, C14, C15, C16, C17, C18, C19, C20, C21, C22, C23, C24, C25, C26].getD 7 0) ["rest"]) [] := ⟨⟨g_C7___init__, _, _, o_C7, PySem.W.mg_of X G a_C7, ⟨mk_C7, a_C7___init__, i_C7___init__, kc_C7⟩, bMk F_C7___init__ (fun _ _ _ _ _ _ us hl => match us, hl with | [_, _], _ => rfl), .nil⟩⟩
  have o_C8 := ok_init_Steady (P := l.prog) (w := w) (base := base) F_C8___init__ T
  have m_Steady_1 : McO l.prog w K mg base (L2.CX l.prog w) 1 "Steady" ([C0, C1, C2, C3, C4, C5, C6, C7, C8, C9, C10, C11, C12, C13, C14, C15, C16, C17, C18, C19, C20, C21, C22, C23, C24, C25, C26].getD 8 0) ["self", "begins"] (spInit ([C0, C1, C2, C3, C4, C5, C6, C7, C8, C9, C10, C11, C12, C13, C14, C15, C16, C17, C18, C19, C20, C21, C22, C23, C24, C25, C26].getD 8 0) ["begins"]) [] := ⟨⟨g_C8___init__, _, _, o_C8, PySem.W.mg_of X G a_C8, ⟨mk_C8, a_C8___init__, i_C8___init__, kc_C8⟩, bMk F_C8___init__ (fun _ _ _ _ _ _ us hl => match us, hl with | [_, _], _ => rfl), .nil⟩⟩
  have o_C9 := ok_init_Jump (P := l.prog) (w := w) (base := base) F_C9___init__ T
  have m_Jump_1 : McO l.prog w K mg base (L2.CX l.prog w) 1 "Jump" ([C0, C1, C2, C3, C4, C5, C6, C7, C8, C9, C10, C11, C12, C13, C14, C15, C16, C17, C18, C19, C20, C21, C22, C23, C24, C25, C26].getD 9 0) ["self", "rest"] (spInit ([C0, C1, C2, C3, C4, C5, C6, C7, C8, C9, C10, C11, C12, C13, C14, C15, C16, C17, C18, C19, C20, C21, C22, C23, C24, C25, C26].getD 9 0) ["rest"]) [] := ⟨⟨g_C9___init__, _, _, o_C9, PySem.W.mg_of X G a_C9, ⟨mk_C9, a_C9___init__, i_C9___init__, kc_C9⟩, bMk F_C9___init__ (fun _ _ _ _ _ _ us hl => match us, hl with | [_, _], _ => rfl), .nil⟩⟩
  have o_C10 := ok_init_Same (P := l.prog) (w := w) (base := base) F_C10___init__ T
  have m_Same_2 : McO l.prog w K mg base (L2.CX l.prog w) 1 "Same" ([C0, C1, C2, C3, C4, C5, C6, C7, C8, C9, C10, C11, C12, C13, C14, C15, C16, C17, C18, C19, C20, C21, C22, C23, C24, C25, C26].getD 10 0) ["self", "first", "last"] (spInit ([C0, C1, C2, C3, C4, C5, C6, C7, C8, C9, C10, C11, C12, C13, C14, C15, C16, C17, C18, C19, C20, C21, C22, C23, C24, C25, C26].getD 10 0) ["first", "last"]) [] := ⟨⟨g_C10___init__, _, _, o_C10, PySem.W.mg_of X G a_C10, ⟨mk_C10, a_C10___init__, i_C10___init__, kc_C10⟩, bMk F_C10___init__ (fun _ _ _ _ _ _ us hl => match us, hl with | [_, _, _], _ => rfl), .nil⟩⟩
  have o_C11 := ok_init_Other (P := l.prog) (w := w) (base := base) F_C11___init__ T
  have m_Other_1 : McO l.prog w K mg base (L2.CX l.prog w) 1 "Other" ([C0, C1, C2, C3, C4, C5, C6, C7, C8, C9, C10, C11, C12, C13, C14, C15, C16, C17, C18, C19, C20, C21, C22, C23, C24, C25, C26].getD 11 0) ["self", "rest"] (spInit ([C0, C1, C2, C3, C4, C5, C6, C7, C8, C9, C10, C11, C12, C13, C14, C15, C16, C17, C18, C19, C20, C21, C22, C23, C24, C25, C26].getD 11 0) ["rest"]) [] := ⟨⟨g_C11___init__, _, _, o_C11, PySem.W.mg_of X G a_C11, ⟨mk_C11, a_C11___init__, i_C11___init__, kc_C11⟩, bMk F_C11___init__ (fun _ _ _ _ _ _ us hl => match us, hl with | [_, _], _ => rfl), .nil⟩⟩
  have o_C12 := ok_init_Surely (P := l.prog) (w := w) (base := base) F_C12___init__ T
  have m_Surely_2 : McO l.prog w K mg base (L2.CX l.prog w) 1 "Surely" ([C0, C1, C2, C3, C4, C5, C6, C7, C8, C9, C10, C11, C12, C13, C14, C15, C16, C17, C18, C19, C20, C21, C22, C23, C24, C25, C26].getD 12 0) ["self", "never", "steady"] (spInit ([C0, C1, C2, C3, C4, C5, C6, C7, C8, C9, C10, C11, C12, C13, C14, C15, C16, C17, C18, C19, C20, C21, C22, C23, C24, C25, C26].getD 12 0) ["never", "steady"]) [] := ⟨⟨g_C12___init__, _, _, o_C12, PySem.W.mg_of X G a_C12, ⟨mk_C12, a_C12___init__, i_C12___init__, kc_C12⟩, bMk F_C12___init__ (fun _ _ _ _ _ _ us hl => match us, hl with | [_, _, _], _ => rfl), .nil⟩⟩
  have o_C13 := ok_init_Counter (P := l.prog) (w := w) (base := base) F_C13___init__ T
  have m_Counter_2 : McO l.prog w K mg base (L2.CX l.prog w) 1 "Counter" ([C0, C1, C2, C3, C4, C5, C6, C7, C8, C9, C10, C11, C12, C13, C14, C15, C16, C17, C18, C19, C20, C21, C22, C23, C24, C25, C26].getD 13 0) ["self", "total", "counts"] (spInit ([C0, C1, C2, C3, C4, C5, C6, C7, C8, C9, C10, C11, C12, C13, C14, C15, C16, C17, C18, C19, C20, C21, C22, C23, C24, C25, C26].getD 13 0) ["total", "counts"]) [] := ⟨⟨g_C13___init__, _, _, o_C13, PySem.W.mg_of X G a_C13, ⟨mk_C13, a_C13___init__, i_C13___init__, kc_C13⟩, bMk F_C13___init__ (fun _ _ _ _ _ _ us hl => match us, hl with | [_, _, _], _ => rfl), .nil⟩⟩
  have o_C14 := ok_init_Undecided (P := l.prog) (w := w) (base := base) F_C14___init__ T
  have m_Undecided_1 : McO l.prog w K mg base (L2.CX l.prog w) 1 "Undecided" ([C0, C1, C2, C3, C4, C5, C6, C7, C8, C9, C10, C11, C12, C13, C14, C15, C16, C17, C18, C19, C20, C21, C22, C23, C24, C25, C26].getD 14 0) ["self", "upto"] (spInit ([C0, C1, C2, C3, C4, C5, C6, C7, C8, C9, C10, C11, C12, C13, C14, C15, C16, C17, C18, C19, C20, C21, C22, C23, C24, C25, C26].getD 14 0) ["upto"]) [] := ⟨⟨g_C14___init__, _, _, o_C14, PySem.W.mg_of X G a_C14, ⟨mk_C14, a_C14___init__, i_C14___init__, kc_C14⟩, bMk F_C14___init__ (fun _ _ _ _ _ _ us hl => match us, hl with | [_, _], _ => rfl), .nil⟩⟩
  have o_C15 := ok_init_Bound (P := l.prog) (w := w) (base := base) F_C15___init__ T
  have m_Bound_2 : McO l.prog w K mg base (L2.CX l.prog w) 1 "Bound" ([C0, C1, C2, C3, C4, C5, C6, C7, C8, C9, C10, C11, C12, C13, C14, C15, C16, C17, C18, C19, C20, C21, C22, C23, C24, C25, C26].getD 15 0) ["self", "late", "rest"] (spInit ([C0, C1, C2, C3, C4, C5, C6, C7, C8, C9, C10, C11, C12, C13, C14, C15, C16, C17, C18, C19, C20, C21, C22, C23, C24, C25, C26].getD 15 0) ["late", "rest"]) [] := ⟨⟨g_C15___init__, _, _, o_C15, PySem.W.mg_of X G a_C15, ⟨mk_C15, a_C15___init__, i_C15___init__, kc_C15⟩, bMk F_C15___init__ (fun _ _ _ _ _ _ us hl => match us, hl with | [_, _, _], _ => rfl), .nil⟩⟩
  have o_C16 := ok_init_Endless (P := l.prog) (w := w) (base := base) F_C16___init__ T
  have m_Endless_2 : McO l.prog w K mg base (L2.CX l.prog w) 1 "Endless" ([C0, C1, C2, C3, C4, C5, C6, C7, C8, C9, C10, C11, C12, C13, C14, C15, C16, C17, C18, C19, C20, C21, C22, C23, C24, C25, C26].getD 16 0) ["self", "residue", "begin"] (spInit ([C0, C1, C2, C3, C4, C5, C6, C7, C8, C9, C10, C11, C12, C13, C14, C15, C16, C17, C18, C19, C20, C21, C22, C23, C24, C25, C26].getD 16 0) ["residue", "begin"]) [] := ⟨⟨g_C16___init__, _, _, o_C16, PySem.W.mg_of X G a_C16, ⟨mk_C16, a_C16___init__, i_C16___init__, kc_C16⟩, bMk F_C16___init__ (fun _ _ _ _ _ _ us hl => match us, hl with | [_, _, _], _ => rfl), .nil⟩⟩
  have o_C17 := ok_init_Within (P := l.prog) (w := w) (base := base) F_C17___init__ T
  have m_Within_1 : McO l.prog w K mg base (L2.CX l.prog w) 1 "Within" ([C0, C1, C2, C3, C4, C5, C6, C7, C8, C9, C10, C11, C12, C13, C14, C15, C16, C17, C18, C19, C20, C21, C22, C23, C24, C25, C26].getD 17 0) ["self", "table"] (spInit ([C0, C1, C2, C3, C4, C5, C6, C7, C8, C9, C10, C11, C12, C13, C14, C15, C16, C17, C18, C19, C20, C21, C22, C23, C24, C25, C26].getD 17 0) ["table"]) [] := ⟨⟨g_C17___init__, _, _, o_C17, PySem.W.mg_of X G a_C17, ⟨mk_C17, a_C17___init__, i_C17___init__, kc_C17⟩, bMk F_C17___init__ (fun _ _ _ _ _ _ us hl => match us, hl with | [_, _], _ => rfl), .nil⟩⟩
  have o_C18 := ok_init_Beyond (P := l.prog) (w := w) (base := base) F_C18___init__ T
  have m_Beyond_2 : McO l.prog w K mg base (L2.CX l.prog w) 1 "Beyond" ([C0, C1, C2, C3, C4, C5, C6, C7, C8, C9, C10, C11, C12, C13, C14, C15, C16, C17, C18, C19, C20, C21, C22, C23, C24, C25, C26].getD 18 0) ["self", "rest", "late"] (spInit ([C0, C1, C2, C3, C4, C5, C6, C7, C8, C9, C10, C11, C12, C13, C14, C15, C16, C17, C18, C19, C20, C21, C22, C23, C24, C25, C26].getD 18 0) ["rest", "late"]) [] := ⟨⟨g_C18___init__, _, _, o_C18, PySem.W.mg_of X G a_C18, ⟨mk_C18, a_C18___init__, i_C18___init__, kc_C18⟩, bMk F_C18___init__ (fun _ _ _ _ _ _ us hl => match us, hl with | [_, _, _], _ => rfl), .nil⟩⟩
  have o_C19 := ok_init_Latest (P := l.prog) (w := w) (base := base) F_C19___init__ T
  have m_Latest_3 : McO l.prog w K mg base (L2.CX l.prog w) 1 "Latest" ([C0, C1, C2, C3, C4, C5, C6, C7, C8, C9, C10, C11, C12, C13, C14, C15, C16, C17, C18, C19, C20, C21, C22, C23, C24, C25, C26].getD 19 0) ["self", "late", "at", "world"] (spInit ([C0, C1, C2, C3, C4, C5, C6, C7, C8, C9, C10, C11, C12, C13, C14, C15, C16, C17, C18, C19, C20, C21, C22, C23, C24, C25, C26].getD 19 0) ["late", "at", "world"]) [] := ⟨⟨g_C19___init__, _, _, o_C19, PySem.W.mg_of X G a_C19, ⟨mk_C19, a_C19___init__, i_C19___init__, kc_C19⟩, bMk F_C19___init__ (fun _ _ _ _ _ _ us hl => match us, hl with | [_, _, _, _], _ => rfl), .nil⟩⟩
  have o_C20 := ok_init_Taking (P := l.prog) (w := w) (base := base) F_C20___init__ T
  have m_Taking_4 : McO l.prog w K mg base (L2.CX l.prog w) 1 "Taking" ([C0, C1, C2, C3, C4, C5, C6, C7, C8, C9, C10, C11, C12, C13, C14, C15, C16, C17, C18, C19, C20, C21, C22, C23, C24, C25, C26].getD 20 0) ["self", "worker", "at", "begun", "ended"] (spInit ([C0, C1, C2, C3, C4, C5, C6, C7, C8, C9, C10, C11, C12, C13, C14, C15, C16, C17, C18, C19, C20, C21, C22, C23, C24, C25, C26].getD 20 0) ["worker", "at", "begun", "ended"]) [] := ⟨⟨g_C20___init__, _, _, o_C20, PySem.W.mg_of X G a_C20, ⟨mk_C20, a_C20___init__, i_C20___init__, kc_C20⟩, bMk F_C20___init__ (fun _ _ _ _ _ _ us hl => match us, hl with | [_, _, _, _, _], _ => rfl), .nil⟩⟩
  have o_C21 := ok_init_Fits (P := l.prog) (w := w) (base := base) F_C21___init__ T
  have m_Fits_1 : McO l.prog w K mg base (L2.CX l.prog w) 1 "Fits" ([C0, C1, C2, C3, C4, C5, C6, C7, C8, C9, C10, C11, C12, C13, C14, C15, C16, C17, C18, C19, C20, C21, C22, C23, C24, C25, C26].getD 21 0) ["self", "world"] (spInit ([C0, C1, C2, C3, C4, C5, C6, C7, C8, C9, C10, C11, C12, C13, C14, C15, C16, C17, C18, C19, C20, C21, C22, C23, C24, C25, C26].getD 21 0) ["world"]) [] := ⟨⟨g_C21___init__, _, _, o_C21, PySem.W.mg_of X G a_C21, ⟨mk_C21, a_C21___init__, i_C21___init__, kc_C21⟩, bMk F_C21___init__ (fun _ _ _ _ _ _ us hl => match us, hl with | [_, _], _ => rfl), .nil⟩⟩
  have o_C22 := ok_init_Misfit (P := l.prog) (w := w) (base := base) F_C22___init__ T
  have m_Misfit_2 : McO l.prog w K mg base (L2.CX l.prog w) 1 "Misfit" ([C0, C1, C2, C3, C4, C5, C6, C7, C8, C9, C10, C11, C12, C13, C14, C15, C16, C17, C18, C19, C20, C21, C22, C23, C24, C25, C26].getD 22 0) ["self", "at", "why"] (spInit ([C0, C1, C2, C3, C4, C5, C6, C7, C8, C9, C10, C11, C12, C13, C14, C15, C16, C17, C18, C19, C20, C21, C22, C23, C24, C25, C26].getD 22 0) ["at", "why"]) [] := ⟨⟨g_C22___init__, _, _, o_C22, PySem.W.mg_of X G a_C22, ⟨mk_C22, a_C22___init__, i_C22___init__, kc_C22⟩, bMk F_C22___init__ (fun _ _ _ _ _ _ us hl => match us, hl with | [_, _, _], _ => rfl), .nil⟩⟩
  have o_C23 := ok_init_Ring (P := l.prog) (w := w) (base := base) F_C23___init__ T
  have m_Ring_1 : McO l.prog w K mg base (L2.CX l.prog w) 1 "Ring" ([C0, C1, C2, C3, C4, C5, C6, C7, C8, C9, C10, C11, C12, C13, C14, C15, C16, C17, C18, C19, C20, C21, C22, C23, C24, C25, C26].getD 23 0) ["self", "workers"] (spInit ([C0, C1, C2, C3, C4, C5, C6, C7, C8, C9, C10, C11, C12, C13, C14, C15, C16, C17, C18, C19, C20, C21, C22, C23, C24, C25, C26].getD 23 0) ["workers"]) [] := ⟨⟨g_C23___init__, _, _, o_C23, PySem.W.mg_of X G a_C23, ⟨mk_C23, a_C23___init__, i_C23___init__, kc_C23⟩, bMk F_C23___init__ (fun _ _ _ _ _ _ us hl => match us, hl with | [_, _], _ => rfl), .nil⟩⟩
  have o_C24 := ok_init_Came (P := l.prog) (w := w) (base := base) F_C24___init__ T
  have m_Came_2 : McO l.prog w K mg base (L2.CX l.prog w) 1 "Came" ([C0, C1, C2, C3, C4, C5, C6, C7, C8, C9, C10, C11, C12, C13, C14, C15, C16, C17, C18, C19, C20, C21, C22, C23, C24, C25, C26].getD 24 0) ["self", "least", "most"] (spInit ([C0, C1, C2, C3, C4, C5, C6, C7, C8, C9, C10, C11, C12, C13, C14, C15, C16, C17, C18, C19, C20, C21, C22, C23, C24, C25, C26].getD 24 0) ["least", "most"]) [] := ⟨⟨g_C24___init__, _, _, o_C24, PySem.W.mg_of X G a_C24, ⟨mk_C24, a_C24___init__, i_C24___init__, kc_C24⟩, bMk F_C24___init__ (fun _ _ _ _ _ _ us hl => match us, hl with | [_, _, _], _ => rfl), .nil⟩⟩
  have o_C25 := ok_init_BestOrder (P := l.prog) (w := w) (base := base) F_C25___init__ T
  have m_BestOrder_3 : McO l.prog w K mg base (L2.CX l.prog w) 1 "BestOrder" ([C0, C1, C2, C3, C4, C5, C6, C7, C8, C9, C10, C11, C12, C13, C14, C15, C16, C17, C18, C19, C20, C21, C22, C23, C24, C25, C26].getD 25 0) ["self", "names", "late", "last"] (spInit ([C0, C1, C2, C3, C4, C5, C6, C7, C8, C9, C10, C11, C12, C13, C14, C15, C16, C17, C18, C19, C20, C21, C22, C23, C24, C25, C26].getD 25 0) ["names", "late", "last"]) [] := ⟨⟨g_C25___init__, _, _, o_C25, PySem.W.mg_of X G a_C25, ⟨mk_C25, a_C25___init__, i_C25___init__, kc_C25⟩, bMk F_C25___init__ (fun _ _ _ _ _ _ us hl => match us, hl with | [_, _, _, _], _ => rfl), .nil⟩⟩
  have o_C26 := ok_init_PoolTaking (P := l.prog) (w := w) (base := base) F_C26___init__ T
  have m_PoolTaking_5 : McO l.prog w K mg base (L2.CX l.prog w) 1 "PoolTaking" ([C0, C1, C2, C3, C4, C5, C6, C7, C8, C9, C10, C11, C12, C13, C14, C15, C16, C17, C18, C19, C20, C21, C22, C23, C24, C25, C26].getD 26 0) ["self", "loop", "worker", "many", "begun", "ended"] (spInit ([C0, C1, C2, C3, C4, C5, C6, C7, C8, C9, C10, C11, C12, C13, C14, C15, C16, C17, C18, C19, C20, C21, C22, C23, C24, C25, C26].getD 26 0) ["loop", "worker", "many", "begun", "ended"]) [] := ⟨⟨g_C26___init__, _, _, o_C26, PySem.W.mg_of X G a_C26, ⟨mk_C26, a_C26___init__, i_C26___init__, kc_C26⟩, bMk F_C26___init__ (fun _ _ _ _ _ _ us hl => match us, hl with | [_, _, _, _, _, _], _ => rfl), .nil⟩⟩
  have m_NoList_k : McN l.prog w K mg base (L2.CX l.prog w) 1 "NoList" ([C0, C1, C2, C3, C4, C5, C6, C7, C8, C9, C10, C11, C12, C13, C14, C15, C16, C17, C18, C19, C20, C21, C22, C23, C24, C25, C26].getD 1 0) 0 ["self", "rests"] (spInit ([C0, C1, C2, C3, C4, C5, C6, C7, C8, C9, C10, C11, C12, C13, C14, C15, C16, C17, C18, C19, C20, C21, C22, C23, C24, C25, C26].getD 1 0) ["rests"]) ["rests"] (permG [0]) := ⟨⟨g_C1___init__, _, _, o_C1, PySem.W.mg_of X G a_C1, ⟨mk_C1, a_C1___init__, i_C1___init__, kc_C1⟩, kbnQ F_C1___init__ 0 ["rests"] [0] (fun kV doc pm an cdv ct us ws h1 h2 => match us, ws, h1, h2 with | [_], [_], _, _ => rfl)⟩⟩
  have m_Least_k : McN l.prog w K mg base (L2.CX l.prog w) 1 "Least" ([C0, C1, C2, C3, C4, C5, C6, C7, C8, C9, C10, C11, C12, C13, C14, C15, C16, C17, C18, C19, C20, C21, C22, C23, C24, C25, C26].getD 3 0) 0 ["self", "limit", "chunks", "below"] (spInit ([C0, C1, C2, C3, C4, C5, C6, C7, C8, C9, C10, C11, C12, C13, C14, C15, C16, C17, C18, C19, C20, C21, C22, C23, C24, C25, C26].getD 3 0) ["limit", "chunks", "below"]) ["below", "chunks", "limit"] (permG [2, 1, 0]) := ⟨⟨g_C3___init__, _, _, o_C3, PySem.W.mg_of X G a_C3, ⟨mk_C3, a_C3___init__, i_C3___init__, kc_C3⟩, kbnQ F_C3___init__ 0 ["below", "chunks", "limit"] [2, 1, 0] (fun kV doc pm an cdv ct us ws h1 h2 => match us, ws, h1, h2 with | [_], [_, _, _], _, _ => rfl)⟩⟩
  have m_Bound_k : McN l.prog w K mg base (L2.CX l.prog w) 1 "Bound" ([C0, C1, C2, C3, C4, C5, C6, C7, C8, C9, C10, C11, C12, C13, C14, C15, C16, C17, C18, C19, C20, C21, C22, C23, C24, C25, C26].getD 15 0) 0 ["self", "late", "rest"] (spInit ([C0, C1, C2, C3, C4, C5, C6, C7, C8, C9, C10, C11, C12, C13, C14, C15, C16, C17, C18, C19, C20, C21, C22, C23, C24, C25, C26].getD 15 0) ["late", "rest"]) ["rest", "late"] (permG [1, 0]) := ⟨⟨g_C15___init__, _, _, o_C15, PySem.W.mg_of X G a_C15, ⟨mk_C15, a_C15___init__, i_C15___init__, kc_C15⟩, kbnQ F_C15___init__ 0 ["rest", "late"] [1, 0] (fun kV doc pm an cdv ct us ws h1 h2 => match us, ws, h1, h2 with | [_], [_, _], _, _ => rfl)⟩⟩
  have m_Within_k : McN l.prog w K mg base (L2.CX l.prog w) 1 "Within" ([C0, C1, C2, C3, C4, C5, C6, C7, C8, C9, C10, C11, C12, C13, C14, C15, C16, C17, C18, C19, C20, C21, C22, C23, C24, C25, C26].getD 17 0) 0 ["self", "table"] (spInit ([C0, C1, C2, C3, C4, C5, C6, C7, C8, C9, C10, C11, C12, C13, C14, C15, C16, C17, C18, C19, C20, C21, C22, C23, C24, C25, C26].getD 17 0) ["table"]) ["table"] (permG [0]) := ⟨⟨g_C17___init__, _, _, o_C17, PySem.W.mg_of X G a_C17, ⟨mk_C17, a_C17___init__, i_C17___init__, kc_C17⟩, kbnQ F_C17___init__ 0 ["table"] [0] (fun kV doc pm an cdv ct us ws h1 h2 => match us, ws, h1, h2 with | [_], [_], _, _ => rfl)⟩⟩
  have m_NeverLess_k : McN l.prog w K mg base (L2.CX l.prog w) 1 "NeverLess" ([C0, C1, C2, C3, C4, C5, C6, C7, C8, C9, C10, C11, C12, C13, C14, C15, C16, C17, C18, C19, C20, C21, C22, C23, C24, C25, C26].getD 6 0) 0 ["self", "begins"] (spInit ([C0, C1, C2, C3, C4, C5, C6, C7, C8, C9, C10, C11, C12, C13, C14, C15, C16, C17, C18, C19, C20, C21, C22, C23, C24, C25, C26].getD 6 0) ["begins"]) ["begins"] (permG [0]) := ⟨⟨g_C6___init__, _, _, o_C6, PySem.W.mg_of X G a_C6, ⟨mk_C6, a_C6___init__, i_C6___init__, kc_C6⟩, kbnQ F_C6___init__ 0 ["begins"] [0] (fun kV doc pm an cdv ct us ws h1 h2 => match us, ws, h1, h2 with | [_], [_], _, _ => rfl)⟩⟩
  have m_Surely_k : McN l.prog w K mg base (L2.CX l.prog w) 1 "Surely" ([C0, C1, C2, C3, C4, C5, C6, C7, C8, C9, C10, C11, C12, C13, C14, C15, C16, C17, C18, C19, C20, C21, C22, C23, C24, C25, C26].getD 12 0) 0 ["self", "never", "steady"] (spInit ([C0, C1, C2, C3, C4, C5, C6, C7, C8, C9, C10, C11, C12, C13, C14, C15, C16, C17, C18, C19, C20, C21, C22, C23, C24, C25, C26].getD 12 0) ["never", "steady"]) ["steady", "never"] (permG [1, 0]) := ⟨⟨g_C12___init__, _, _, o_C12, PySem.W.mg_of X G a_C12, ⟨mk_C12, a_C12___init__, i_C12___init__, kc_C12⟩, kbnQ F_C12___init__ 0 ["steady", "never"] [1, 0] (fun kV doc pm an cdv ct us ws h1 h2 => match us, ws, h1, h2 with | [_], [_, _], _, _ => rfl)⟩⟩
  have m_Less_k : McN l.prog w K mg base (L2.CX l.prog w) 1 "Less" ([C0, C1, C2, C3, C4, C5, C6, C7, C8, C9, C10, C11, C12, C13, C14, C15, C16, C17, C18, C19, C20, C21, C22, C23, C24, C25, C26].getD 7 0) 0 ["self", "rest"] (spInit ([C0, C1, C2, C3, C4, C5, C6, C7, C8, C9, C10, C11, C12, C13, C14, C15, C16, C17, C18, C19, C20, C21, C22, C23, C24, C25, C26].getD 7 0) ["rest"]) ["rest"] (permG [0]) := ⟨⟨g_C7___init__, _, _, o_C7, PySem.W.mg_of X G a_C7, ⟨mk_C7, a_C7___init__, i_C7___init__, kc_C7⟩, kbnQ F_C7___init__ 0 ["rest"] [0] (fun kV doc pm an cdv ct us ws h1 h2 => match us, ws, h1, h2 with | [_], [_], _, _ => rfl)⟩⟩
  have m_Undecided_k : McN l.prog w K mg base (L2.CX l.prog w) 1 "Undecided" ([C0, C1, C2, C3, C4, C5, C6, C7, C8, C9, C10, C11, C12, C13, C14, C15, C16, C17, C18, C19, C20, C21, C22, C23, C24, C25, C26].getD 14 0) 0 ["self", "upto"] (spInit ([C0, C1, C2, C3, C4, C5, C6, C7, C8, C9, C10, C11, C12, C13, C14, C15, C16, C17, C18, C19, C20, C21, C22, C23, C24, C25, C26].getD 14 0) ["upto"]) ["upto"] (permG [0]) := ⟨⟨g_C14___init__, _, _, o_C14, PySem.W.mg_of X G a_C14, ⟨mk_C14, a_C14___init__, i_C14___init__, kc_C14⟩, kbnQ F_C14___init__ 0 ["upto"] [0] (fun kV doc pm an cdv ct us ws h1 h2 => match us, ws, h1, h2 with | [_], [_], _, _ => rfl)⟩⟩
  have m_BatchEndless_k : McN l.prog w K mg base (L2.CX l.prog w) 1 "BatchEndless" ([C0, C1, C2, C3, C4, C5, C6, C7, C8, C9, C10, C11, C12, C13, C14, C15, C16, C17, C18, C19, C20, C21, C22, C23, C24, C25, C26].getD 5 0) 0 ["self", "spot", "rise"] (spInit ([C0, C1, C2, C3, C4, C5, C6, C7, C8, C9, C10, C11, C12, C13, C14, C15, C16, C17, C18, C19, C20, C21, C22, C23, C24, C25, C26].getD 5 0) ["spot", "rise"]) ["spot", "rise"] (permG [0, 1]) := ⟨⟨g_C5___init__, _, _, o_C5, PySem.W.mg_of X G a_C5, ⟨mk_C5, a_C5___init__, i_C5___init__, kc_C5⟩, kbnQ F_C5___init__ 0 ["spot", "rise"] [0, 1] (fun kV doc pm an cdv ct us ws h1 h2 => match us, ws, h1, h2 with | [_], [_, _], _, _ => rfl)⟩⟩
  have m_Fits_k : McN l.prog w K mg base (L2.CX l.prog w) 1 "Fits" ([C0, C1, C2, C3, C4, C5, C6, C7, C8, C9, C10, C11, C12, C13, C14, C15, C16, C17, C18, C19, C20, C21, C22, C23, C24, C25, C26].getD 21 0) 0 ["self", "world"] (spInit ([C0, C1, C2, C3, C4, C5, C6, C7, C8, C9, C10, C11, C12, C13, C14, C15, C16, C17, C18, C19, C20, C21, C22, C23, C24, C25, C26].getD 21 0) ["world"]) ["world"] (permG [0]) := ⟨⟨g_C21___init__, _, _, o_C21, PySem.W.mg_of X G a_C21, ⟨mk_C21, a_C21___init__, i_C21___init__, kc_C21⟩, kbnQ F_C21___init__ 0 ["world"] [0] (fun kV doc pm an cdv ct us ws h1 h2 => match us, ws, h1, h2 with | [_], [_], _, _ => rfl)⟩⟩
  have m_Ring_k : McN l.prog w K mg base (L2.CX l.prog w) 1 "Ring" ([C0, C1, C2, C3, C4, C5, C6, C7, C8, C9, C10, C11, C12, C13, C14, C15, C16, C17, C18, C19, C20, C21, C22, C23, C24, C25, C26].getD 23 0) 0 ["self", "workers"] (spInit ([C0, C1, C2, C3, C4, C5, C6, C7, C8, C9, C10, C11, C12, C13, C14, C15, C16, C17, C18, C19, C20, C21, C22, C23, C24, C25, C26].getD 23 0) ["workers"]) ["workers"] (permG [0]) := ⟨⟨g_C23___init__, _, _, o_C23, PySem.W.mg_of X G a_C23, ⟨mk_C23, a_C23___init__, i_C23___init__, kc_C23⟩, kbnQ F_C23___init__ 0 ["workers"] [0] (fun kV doc pm an cdv ct us ws h1 h2 => match us, ws, h1, h2 with | [_], [_], _, _ => rfl)⟩⟩
  have m_Taking_k : McN l.prog w K mg base (L2.CX l.prog w) 1 "Taking" ([C0, C1, C2, C3, C4, C5, C6, C7, C8, C9, C10, C11, C12, C13, C14, C15, C16, C17, C18, C19, C20, C21, C22, C23, C24, C25, C26].getD 20 0) 0 ["self", "worker", "at", "begun", "ended"] (spInit ([C0, C1, C2, C3, C4, C5, C6, C7, C8, C9, C10, C11, C12, C13, C14, C15, C16, C17, C18, C19, C20, C21, C22, C23, C24, C25, C26].getD 20 0) ["worker", "at", "begun", "ended"]) ["ended", "begun", "at", "worker"] (permG [3, 2, 1, 0]) := ⟨⟨g_C20___init__, _, _, o_C20, PySem.W.mg_of X G a_C20, ⟨mk_C20, a_C20___init__, i_C20___init__, kc_C20⟩, kbnQ F_C20___init__ 0 ["ended", "begun", "at", "worker"] [3, 2, 1, 0] (fun kV doc pm an cdv ct us ws h1 h2 => match us, ws, h1, h2 with | [_], [_, _, _, _], _, _ => rfl)⟩⟩
  have m_PoolTaking_k : McN l.prog w K mg base (L2.CX l.prog w) 1 "PoolTaking" ([C0, C1, C2, C3, C4, C5, C6, C7, C8, C9, C10, C11, C12, C13, C14, C15, C16, C17, C18, C19, C20, C21, C22, C23, C24, C25, C26].getD 26 0) 3 ["self", "loop", "worker", "many", "begun", "ended"] (spInit ([C0, C1, C2, C3, C4, C5, C6, C7, C8, C9, C10, C11, C12, C13, C14, C15, C16, C17, C18, C19, C20, C21, C22, C23, C24, C25, C26].getD 26 0) ["loop", "worker", "many", "begun", "ended"]) ["ended", "begun"] (permG [0, 1, 2, 4, 3]) := ⟨⟨g_C26___init__, _, _, o_C26, PySem.W.mg_of X G a_C26, ⟨mk_C26, a_C26___init__, i_C26___init__, kc_C26⟩, kbnQ F_C26___init__ 3 ["ended", "begun"] [0, 1, 2, 4, 3] (fun kV doc pm an cdv ct us ws h1 h2 => match us, ws, h1, h2 with | [_, _, _, _], [_, _], _, _ => rfl)⟩⟩
  have c_own_row : MeK l.prog w K mg base ([C0, C1, C2, C3, C4, C5, C6, C7, C8, C9, C10, C11, C12, C13, C14, C15, C16, C17, C18, C19, C20, C21, C22, C23, C24, C25, C26].getD 26 0) "own_row" 1 (spOwnRow ([C0, C1, C2, C3, C4, C5, C6, C7, C8, C9, C10, C11, C12, C13, C14, C15, C16, C17, C18, C19, C20, C21, C22, C23, C24, C25, C26].getD 26 0)) := ⟨⟨g_C26_own_row, _, ⟨a_C26_own_row, i_C26_own_row, k_C26_own_row⟩, ok_own_row (P := l.prog) (w := w) (base := base) F_C26_own_row T, bMk F_C26_own_row (fun _ _ _ _ _ _ us hl => match us, hl with | [_], _ => rfl)⟩⟩
  have e_Fewest : Me l.prog w K mg base ([C0, C1, C2, C3, C4, C5, C6, C7, C8, C9, C10, C11, C12, C13, C14, C15, C16, C17, C18, C19, C20, C21, C22, C23, C24, C25, C26].getD 0 0) "__eq__" 2 ["self", "other"] (spEqC K ([C0, C1, C2, C3, C4, C5, C6, C7, C8, C9, C10, C11, C12, C13, C14, C15, C16, C17, C18, C19, C20, C21, C22, C23, C24, C25, C26].getD 0 0) ["chunks"]) := ⟨⟨g_C0___eq__, _, a_C0___eq__, i_C0___eq__, ok_eq_Fewest (P := l.prog) (w := w) (base := base) F_C0___eq__ T, bMk F_C0___eq__ (fun _ _ _ _ _ _ us hl => match us, hl with | [_, _], _ => rfl)⟩⟩
  have e_NoList : Me l.prog w K mg base ([C0, C1, C2, C3, C4, C5, C6, C7, C8, C9, C10, C11, C12, C13, C14, C15, C16, C17, C18, C19, C20, C21, C22, C23, C24, C25, C26].getD 1 0) "__eq__" 2 ["self", "other"] (spEqC K ([C0, C1, C2, C3, C4, C5, C6, C7, C8, C9, C10, C11, C12, C13, C14, C15, C16, C17, C18, C19, C20, C21, C22, C23, C24, C25, C26].getD 1 0) ["rests"]) := ⟨⟨g_C1___eq__, _, a_C1___eq__, i_C1___eq__, ok_eq_NoList (P := l.prog) (w := w) (base := base) F_C1___eq__ T, bMk F_C1___eq__ (fun _ _ _ _ _ _ us hl => match us, hl with | [_, _], _ => rfl)⟩⟩
  have e_Greatest : Me l.prog w K mg base ([C0, C1, C2, C3, C4, C5, C6, C7, C8, C9, C10, C11, C12, C13, C14, C15, C16, C17, C18, C19, C20, C21, C22, C23, C24, C25, C26].getD 2 0) "__eq__" 2 ["self", "other"] (spEqC K ([C0, C1, C2, C3, C4, C5, C6, C7, C8, C9, C10, C11, C12, C13, C14, C15, C16, C17, C18, C19, C20, C21, C22, C23, C24, C25, C26].getD 2 0) ["total", "chunks"]) := ⟨⟨g_C2___eq__, _, a_C2___eq__, i_C2___eq__, ok_eq_Greatest (P := l.prog) (w := w) (base := base) F_C2___eq__ T, bMk F_C2___eq__ (fun _ _ _ _ _ _ us hl => match us, hl with | [_, _], _ => rfl)⟩⟩
  have e_Least : Me l.prog w K mg base ([C0, C1, C2, C3, C4, C5, C6, C7, C8, C9, C10, C11, C12, C13, C14, C15, C16, C17, C18, C19, C20, C21, C22, C23, C24, C25, C26].getD 3 0) "__eq__" 2 ["self", "other"] (spEqC K ([C0, C1, C2, C3, C4, C5, C6, C7, C8, C9, C10, C11, C12, C13, C14, C15, C16, C17, C18, C19, C20, C21, C22, C23, C24, C25, C26].getD 3 0) ["limit", "chunks", "below"]) := ⟨⟨g_C3___eq__, _, a_C3___eq__, i_C3___eq__, ok_eq_Least (P := l.prog) (w := w) (base := base) F_C3___eq__ T, bMk F_C3___eq__ (fun _ _ _ _ _ _ us hl => match us, hl with | [_, _], _ => rfl)⟩⟩
  have e_BatchBound : Me l.prog w K mg base ([C0, C1, C2, C3, C4, C5, C6, C7, C8, C9, C10, C11, C12, C13, C14, C15, C16, C17, C18, C19, C20, C21, C22, C23, C24, C25, C26].getD 4 0) "__eq__" 2 ["self", "other"] (spEqC K ([C0, C1, C2, C3, C4, C5, C6, C7, C8, C9, C10, C11, C12, C13, C14, C15, C16, C17, C18, C19, C20, C21, C22, C23, C24, C25, C26].getD 4 0) ["late", "rest", "spot"]) := ⟨⟨g_C4___eq__, _, a_C4___eq__, i_C4___eq__, ok_eq_BatchBound (P := l.prog) (w := w) (base := base) F_C4___eq__ T, bMk F_C4___eq__ (fun _ _ _ _ _ _ us hl => match us, hl with | [_, _], _ => rfl)⟩⟩
  have e_BatchEndless : Me l.prog w K mg base ([C0, C1, C2, C3, C4, C5, C6, C7, C8, C9, C10, C11, C12, C13, C14, C15, C16, C17, C18, C19, C20, C21, C22, C23, C24, C25, C26].getD 5 0) "__eq__" 2 ["self", "other"] (spEqC K ([C0, C1, C2, C3, C4, C5, C6, C7, C8, C9, C10, C11, C12, C13, C14, C15, C16, C17, C18, C19, C20, C21, C22, C23, C24, C25, C26].getD 5 0) ["spot", "rise"]) := ⟨⟨g_C5___eq__, _, a_C5___eq__, i_C5___eq__, ok_eq_BatchEndless (P := l.prog) (w := w) (base := base) F_C5___eq__ T, bMk F_C5___eq__ (fun _ _ _ _ _ _ us hl => match us, hl with | [_, _], _ => rfl)⟩⟩
  have e_NeverLess : Me l.prog w K mg base ([C0, C1, C2, C3, C4, C5, C6, C7, C8, C9, C10, C11, C12, C13, C14, C15, C16, C17, C18, C19, C20, C21, C22, C23, C24, C25, C26].getD 6 0) "__eq__" 2 ["self", "other"] (spEqC K ([C0, C1, C2, C3, C4, C5, C6, C7, C8, C9, C10, C11, C12, C13, C14, C15, C16, C17, C18, C19, C20, C21, C22, C23, C24, C25, C26].getD 6 0) ["begins"]) := ⟨⟨g_C6___eq__, _, a_C6___eq__, i_C6___eq__, ok_eq_NeverLess (P := l.prog) (w := w) (base := base) F_C6___eq__ T, bMk F_C6___eq__ (fun _ _ _ _ _ _ us hl => match us, hl with | [_, _], _ => rfl)⟩⟩
  have e_Less : Me l.prog w K mg base ([C0, C1, C2, C3, C4, C5, C6, C7, C8, C9, C10, C11, C12, C13, C14, C15, C16, C17, C18, C19, C20, C21, C22, C23, C24, C25, C26].getD 7 0) "__eq__" 2 ["self", "other"] (spEqC K ([C0, C1, C2, C3, C4, C5, C6, C7, C8, C9, C10, C11, C12, C13, C14, C15, C16, C17, C18, C19, C20, C21, C22, C23, C24, C25, C26].getD 7 0) ["rest"]) := ⟨⟨g_C7___eq__, _, a_C7___eq__, i_C7___eq__, ok_eq_Less (P := l.prog) (w := w) (base := base) F_C7___eq__ T, bMk F_C7___eq__ (fun _ _ _ _ _ _ us hl => match us, hl with | [_, _], _ => rfl)⟩⟩
  have e_Steady : Me l.prog w K mg base ([C0, C1, C2, C3, C4, C5, C6, C7, C8, C9, C10, C11, C12, C13, C14, C15, C16, C17, C18, C19, C20, C21, C22, C23, C24, C25, C26].getD 8 0) "__eq__" 2 ["self", "other"] (spEqC K ([C0, C1, C2, C3, C4, C5, C6, C7, C8, C9, C10, C11, C12, C13, C14, C15, C16, C17, C18, C19, C20, C21, C22, C23, C24, C25, C26].getD 8 0) ["begins"]) := ⟨⟨g_C8___eq__, _, a_C8___eq__, i_C8___eq__, ok_eq_Steady (P := l.prog) (w := w) (base := base) F_C8___eq__ T, bMk F_C8___eq__ (fun _ _ _ _ _ _ us hl => match us, hl with | [_, _], _ => rfl)⟩⟩
  have e_Jump : Me l.prog w K mg base ([C0, C1, C2, C3, C4, C5, C6, C7, C8, C9, C10, C11, C12, C13, C14, C15, C16, C17, C18, C19, C20, C21, C22, C23, C24, C25, C26].getD 9 0) "__eq__" 2 ["self", "other"] (spEqC K ([C0, C1, C2, C3, C4, C5, C6, C7, C8, C9, C10, C11, C12, C13, C14, C15, C16, C17, C18, C19, C20, C21, C22, C23, C24, C25, C26].getD 9 0) ["rest"]) := ⟨⟨g_C9___eq__, _, a_C9___eq__, i_C9___eq__, ok_eq_Jump (P := l.prog) (w := w) (base := base) F_C9___eq__ T, bMk F_C9___eq__ (fun _ _ _ _ _ _ us hl => match us, hl with | [_, _], _ => rfl)⟩⟩
  have e_Same : Me l.prog w K mg base ([C0, C1, C2, C3, C4, C5, C6, C7, C8, C9, C10, C11, C12, C13, C14, C15, C16, C17, C18, C19, C20, C21, C22, C23, C24, C25, C26].getD 10 0) "__eq__" 2 ["self", "other"] (spEqC K ([C0, C1, C2, C3, C4, C5, C6, C7, C8, C9, C10, C11, C12, C13, C14, C15, C16, C17, C18, C19, C20, C21, C22, C23, C24, C25, C26].getD 10 0) ["first", "last"]) := ⟨⟨g_C10___eq__, _, a_C10___eq__, i_C10___eq__, ok_eq_Same (P := l.prog) (w := w) (base := base) F_C10___eq__ T, bMk F_C10___eq__ (fun _ _ _ _ _ _ us hl => match us, hl with | [_, _], _ => rfl)⟩⟩
  have e_Other : Me l.prog w K mg base ([C0, C1, C2, C3, C4, C5, C6, C7, C8, C9, C10, C11, C12, C13, C14, C15, C16, C17, C18, C19, C20, C21, C22, C23, C24, C25, C26].getD 11 0) "__eq__" 2 ["self", "other"] (spEqC K ([C0, C1, C2, C3, C4, C5, C6, C7, C8, C9, C10, C11, C12, C13, C14, C15, C16, C17, C18, C19, C20, C21, C22, C23, C24, C25, C26].getD 11 0) ["rest"]) := ⟨⟨g_C11___eq__, _, a_C11___eq__, i_C11___eq__, ok_eq_Other (P := l.prog) (w := w) (base := base) F_C11___eq__ T, bMk F_C11___eq__ (fun _ _ _ _ _ _ us hl => match us, hl with | [_, _], _ => rfl)⟩⟩
  have e_Surely : Me l.prog w K mg base ([C0, C1, C2, C3, C4, C5, C6, C7, C8, C9, C10, C11, C12, C13, C14, C15, C16, C17, C18, C19, C20, C21, C22, C23, C24, C25, C26].getD 12 0) "__eq__" 2 ["self", "other"] (spEqC K ([C0, C1, C2, C3, C4, C5, C6, C7, C8, C9, C10, C11, C12, C13, C14, C15, C16, C17, C18, C19, C20, C21, C22, C23, C24, C25, C26].getD 12 0) ["never", "steady"]) := ⟨⟨g_C12___eq__, _, a_C12___eq__, i_C12___eq__, ok_eq_Surely (P := l.prog) (w := w) (base := base) F_C12___eq__ T, bMk F_C12___eq__ (fun _ _ _ _ _ _ us hl => match us, hl with | [_, _], _ => rfl)⟩⟩
  have e_Counter : Me l.prog w K mg base ([C0, C1, C2, C3, C4, C5, C6, C7, C8, C9, C10, C11, C12, C13, C14, C15, C16, C17, C18, C19, C20, C21, C22, C23, C24, C25, C26].getD 13 0) "__eq__" 2 ["self", "other"] (spEqC K ([C0, C1, C2, C3, C4, C5, C6, C7, C8, C9, C10, C11, C12, C13, C14, C15, C16, C17, C18, C19, C20, C21, C22, C23, C24, C25, C26].getD 13 0) ["total", "counts"]) := ⟨⟨g_C13___eq__, _, a_C13___eq__, i_C13___eq__, ok_eq_Counter (P := l.prog) (w := w) (base := base) F_C13___eq__ T, bMk F_C13___eq__ (fun _ _ _ _ _ _ us hl => match us, hl with | [_, _], _ => rfl)⟩⟩
  have e_Undecided : Me l.prog w K mg base ([C0, C1, C2, C3, C4, C5, C6, C7, C8, C9, C10, C11, C12, C13, C14, C15, C16, C17, C18, C19, C20, C21, C22, C23, C24, C25, C26].getD 14 0) "__eq__" 2 ["self", "other"] (spEqC K ([C0, C1, C2, C3, C4, C5, C6, C7, C8, C9, C10, C11, C12, C13, C14, C15, C16, C17, C18, C19, C20, C21, C22, C23, C24, C25, C26].getD 14 0) ["upto"]) := ⟨⟨g_C14___eq__, _, a_C14___eq__, i_C14___eq__, ok_eq_Undecided (P := l.prog) (w := w) (base := base) F_C14___eq__ T, bMk F_C14___eq__ (fun _ _ _ _ _ _ us hl => match us, hl with | [_, _], _ => rfl)⟩⟩
  have e_Bound : Me l.prog w K mg base ([C0, C1, C2, C3, C4, C5, C6, C7, C8, C9, C10, C11, C12, C13, C14, C15, C16, C17, C18, C19, C20, C21, C22, C23, C24, C25, C26].getD 15 0) "__eq__" 2 ["self", "other"] (spEqC K ([C0, C1, C2, C3, C4, C5, C6, C7, C8, C9, C10, C11, C12, C13, C14, C15, C16, C17, C18, C19, C20, C21, C22, C23, C24, C25, C26].getD 15 0) ["late", "rest"]) := ⟨⟨g_C15___eq__, _, a_C15___eq__, i_C15___eq__, ok_eq_Bound (P := l.prog) (w := w) (base := base) F_C15___eq__ T, bMk F_C15___eq__ (fun _ _ _ _ _ _ us hl => match us, hl with | [_, _], _ => rfl)⟩⟩
  have e_Endless : Me l.prog w K mg base ([C0, C1, C2, C3, C4, C5, C6, C7, C8, C9, C10, C11, C12, C13, C14, C15, C16, C17, C18, C19, C20, C21, C22, C23, C24, C25, C26].getD 16 0) "__eq__" 2 ["self", "other"] (spEqC K ([C0, C1, C2, C3, C4, C5, C6, C7, C8, C9, C10, C11, C12, C13, C14, C15, C16, C17, C18, C19, C20, C21, C22, C23, C24, C25, C26].getD 16 0) ["residue", "begin"]) := ⟨⟨g_C16___eq__, _, a_C16___eq__, i_C16___eq__, ok_eq_Endless (P := l.prog) (w := w) (base := base) F_C16___eq__ T, bMk F_C16___eq__ (fun _ _ _ _ _ _ us hl => match us, hl with | [_, _], _ => rfl)⟩⟩
  have e_Within : Me l.prog w K mg base ([C0, C1, C2, C3, C4, C5, C6, C7, C8, C9, C10, C11, C12, C13, C14, C15, C16, C17, C18, C19, C20, C21, C22, C23, C24, C25, C26].getD 17 0) "__eq__" 2 ["self", "other"] (spEqC K ([C0, C1, C2, C3, C4, C5, C6, C7, C8, C9, C10, C11, C12, C13, C14, C15, C16, C17, C18, C19, C20, C21, C22, C23, C24, C25, C26].getD 17 0) ["table"]) := ⟨⟨g_C17___eq__, _, a_C17___eq__, i_C17___eq__, ok_eq_Within (P := l.prog) (w := w) (base := base) F_C17___eq__ T, bMk F_C17___eq__ (fun _ _ _ _ _ _ us hl => match us, hl with | [_, _], _ => rfl)⟩⟩
  have e_Beyond : Me l.prog w K mg base ([C0, C1, C2, C3, C4, C5, C6, C7, C8, C9, C10, C11, C12, C13, C14, C15, C16, C17, C18, C19, C20, C21, C22, C23, C24, C25, C26].getD 18 0) "__eq__" 2 ["self", "other"] (spEqC K ([C0, C1, C2, C3, C4, C5, C6, C7, C8, C9, C10, C11, C12, C13, C14, C15, C16, C17, C18, C19, C20, C21, C22, C23, C24, C25, C26].getD 18 0) ["rest", "late"]) := ⟨⟨g_C18___eq__, _, a_C18___eq__, i_C18___eq__, ok_eq_Beyond (P := l.prog) (w := w) (base := base) F_C18___eq__ T, bMk F_C18___eq__ (fun _ _ _ _ _ _ us hl => match us, hl with | [_, _], _ => rfl)⟩⟩
  have e_Latest : Me l.prog w K mg base ([C0, C1, C2, C3, C4, C5, C6, C7, C8, C9, C10, C11, C12, C13, C14, C15, C16, C17, C18, C19, C20, C21, C22, C23, C24, C25, C26].getD 19 0) "__eq__" 2 ["self", "other"] (spEqC K ([C0, C1, C2, C3, C4, C5, C6, C7, C8, C9, C10, C11, C12, C13, C14, C15, C16, C17, C18, C19, C20, C21, C22, C23, C24, C25, C26].getD 19 0) ["late", "at", "world"]) := ⟨⟨g_C19___eq__, _, a_C19___eq__, i_C19___eq__, ok_eq_Latest (P := l.prog) (w := w) (base := base) F_C19___eq__ T, bMk F_C19___eq__ (fun _ _ _ _ _ _ us hl => match us, hl with | [_, _], _ => rfl)⟩⟩
  have e_Taking : Me l.prog w K mg base ([C0, C1, C2, C3, C4, C5, C6, C7, C8, C9, C10, C11, C12, C13, C14, C15, C16, C17, C18, C19, C20, C21, C22, C23, C24, C25, C26].getD 20 0) "__eq__" 2 ["self", "other"] (spEqC K ([C0, C1, C2, C3, C4, C5, C6, C7, C8, C9, C10, C11, C12, C13, C14, C15, C16, C17, C18, C19, C20, C21, C22, C23, C24, C25, C26].getD 20 0) ["worker", "at", "begun", "ended"]) := ⟨⟨g_C20___eq__, _, a_C20___eq__, i_C20___eq__, ok_eq_Taking (P := l.prog) (w := w) (base := base) F_C20___eq__ T, bMk F_C20___eq__ (fun _ _ _ _ _ _ us hl => match us, hl with | [_, _], _ => rfl)⟩⟩
  have e_Fits : Me l.prog w K mg base ([C0, C1, C2, C3, C4, C5, C6, C7, C8, C9, C10, C11, C12, C13, C14, C15, C16, C17, C18, C19, C20, C21, C22, C23, C24, C25, C26].getD 21 0) "__eq__" 2 ["self", "other"] (spEqC K ([C0, C1, C2, C3, C4, C5, C6, C7, C8, C9, C10, C11, C12, C13, C14, C15, C16, C17, C18, C19, C20, C21, C22, C23, C24, C25, C26].getD 21 0) ["world"]) := ⟨⟨g_C21___eq__, _, a_C21___eq__, i_C21___eq__, ok_eq_Fits (P := l.prog) (w := w) (base := base) F_C21___eq__ T, bMk F_C21___eq__ (fun _ _ _ _ _ _ us hl => match us, hl with | [_, _], _ => rfl)⟩⟩
  have e_Misfit : Me l.prog w K mg base ([C0, C1, C2, C3, C4, C5, C6, C7, C8, C9, C10, C11, C12, C13, C14, C15, C16, C17, C18, C19, C20, C21, C22, C23, C24, C25, C26].getD 22 0) "__eq__" 2 ["self", "other"] (spEqC K ([C0, C1, C2, C3, C4, C5, C6, C7, C8, C9, C10, C11, C12, C13, C14, C15, C16, C17, C18, C19, C20, C21, C22, C23, C24, C25, C26].getD 22 0) ["at", "why"]) := ⟨⟨g_C22___eq__, _, a_C22___eq__, i_C22___eq__, ok_eq_Misfit (P := l.prog) (w := w) (base := base) F_C22___eq__ T, bMk F_C22___eq__ (fun _ _ _ _ _ _ us hl => match us, hl with | [_, _], _ => rfl)⟩⟩
  have e_Ring : Me l.prog w K mg base ([C0, C1, C2, C3, C4, C5, C6, C7, C8, C9, C10, C11, C12, C13, C14, C15, C16, C17, C18, C19, C20, C21, C22, C23, C24, C25, C26].getD 23 0) "__eq__" 2 ["self", "other"] (spEqC K ([C0, C1, C2, C3, C4, C5, C6, C7, C8, C9, C10, C11, C12, C13, C14, C15, C16, C17, C18, C19, C20, C21, C22, C23, C24, C25, C26].getD 23 0) ["workers"]) := ⟨⟨g_C23___eq__, _, a_C23___eq__, i_C23___eq__, ok_eq_Ring (P := l.prog) (w := w) (base := base) F_C23___eq__ T, bMk F_C23___eq__ (fun _ _ _ _ _ _ us hl => match us, hl with | [_, _], _ => rfl)⟩⟩
  have e_Came : Me l.prog w K mg base ([C0, C1, C2, C3, C4, C5, C6, C7, C8, C9, C10, C11, C12, C13, C14, C15, C16, C17, C18, C19, C20, C21, C22, C23, C24, C25, C26].getD 24 0) "__eq__" 2 ["self", "other"] (spEqC K ([C0, C1, C2, C3, C4, C5, C6, C7, C8, C9, C10, C11, C12, C13, C14, C15, C16, C17, C18, C19, C20, C21, C22, C23, C24, C25, C26].getD 24 0) ["least", "most"]) := ⟨⟨g_C24___eq__, _, a_C24___eq__, i_C24___eq__, ok_eq_Came (P := l.prog) (w := w) (base := base) F_C24___eq__ T, bMk F_C24___eq__ (fun _ _ _ _ _ _ us hl => match us, hl with | [_, _], _ => rfl)⟩⟩
  have e_BestOrder : Me l.prog w K mg base ([C0, C1, C2, C3, C4, C5, C6, C7, C8, C9, C10, C11, C12, C13, C14, C15, C16, C17, C18, C19, C20, C21, C22, C23, C24, C25, C26].getD 25 0) "__eq__" 2 ["self", "other"] (spEqC K ([C0, C1, C2, C3, C4, C5, C6, C7, C8, C9, C10, C11, C12, C13, C14, C15, C16, C17, C18, C19, C20, C21, C22, C23, C24, C25, C26].getD 25 0) ["names", "late", "last"]) := ⟨⟨g_C25___eq__, _, a_C25___eq__, i_C25___eq__, ok_eq_BestOrder (P := l.prog) (w := w) (base := base) F_C25___eq__ T, bMk F_C25___eq__ (fun _ _ _ _ _ _ us hl => match us, hl with | [_, _], _ => rfl)⟩⟩
  have e_PoolTaking : Me l.prog w K mg base ([C0, C1, C2, C3, C4, C5, C6, C7, C8, C9, C10, C11, C12, C13, C14, C15, C16, C17, C18, C19, C20, C21, C22, C23, C24, C25, C26].getD 26 0) "__eq__" 2 ["self", "other"] (spEqC K ([C0, C1, C2, C3, C4, C5, C6, C7, C8, C9, C10, C11, C12, C13, C14, C15, C16, C17, C18, C19, C20, C21, C22, C23, C24, C25, C26].getD 26 0) ["loop", "worker", "many", "begun", "ended"]) := ⟨⟨g_C26___eq__, _, a_C26___eq__, i_C26___eq__, ok_eq_PoolTaking (P := l.prog) (w := w) (base := base) F_C26___eq__ T c_own_row, bMk F_C26___eq__ (fun _ _ _ _ _ _ us hl => match us, hl with | [_, _], _ => rfl)⟩⟩
  have BE : ∀ j, j < 27 → Me l.prog w K mg base ([C0, C1, C2, C3, C4, C5, C6, C7, C8, C9, C10, C11, C12, C13, C14, C15, C16, C17, C18, C19, C20, C21, C22, C23, C24, C25, C26].getD j 0) "__eq__" 2 ["self", "other"] (spEqC K ([C0, C1, C2, C3, C4, C5, C6, C7, C8, C9, C10, C11, C12, C13, C14, C15, C16, C17, C18, C19, C20, C21, C22, C23, C24, C25, C26].getD j 0) (flds j)) := fun j hj => match j, hj with
    | 0, _ => e_Fewest
    | 1, _ => e_NoList
    | 2, _ => e_Greatest
    | 3, _ => e_Least
    | 4, _ => e_BatchBound
    | 5, _ => e_BatchEndless
    | 6, _ => e_NeverLess
    | 7, _ => e_Less
    | 8, _ => e_Steady
    | 9, _ => e_Jump
    | 10, _ => e_Same
    | 11, _ => e_Other
    | 12, _ => e_Surely
    | 13, _ => e_Counter
    | 14, _ => e_Undecided
    | 15, _ => e_Bound
    | 16, _ => e_Endless
    | 17, _ => e_Within
    | 18, _ => e_Beyond
    | 19, _ => e_Latest
    | 20, _ => e_Taking
    | 21, _ => e_Fits
    | 22, _ => e_Misfit
    | 23, _ => e_Ring
    | 24, _ => e_Came
    | 25, _ => e_BestOrder
    | 26, _ => e_PoolTaking
    | j + 27, h => absurd h (by omega)
  have Gb := ok_bool (P := l.prog) (w := w) (mg := mg) (base := base) F_CD___bool__
  have c__law_pen : Fn l.prog w K mg base CX0 1 "_law_pen" ["_law_script"] (spPen K) := fnMk F1 (ok_pen F1 T) (PySem.W.mg_of X G a1) (fun _ _ _ _ _ _ us hl => match us, hl with | [_], _ => rfl) (fun _ _ _ _ _ _ us hl => match us, hl with | [_], _ => rfl)
  have c__law_draw : Fn l.prog w K mg base CX0 1 "_law_draw" ["_law_pen_here", "_law_many"] spDraw := fnMk F2 (ok_draw F2 T) (PySem.W.mg_of X G a2) (fun _ _ _ _ _ _ us hl => match us, hl with | [_, _], _ => rfl) (fun _ _ _ _ _ _ us hl => match us, hl with | [_, _], _ => rfl)
  have c__law_pick : Fn l.prog w K mg base CX0 2 "_law_pick" ["_law_pen_here", "_law_some"] spPick := fnMk F3 (ok_pick F3 T c__law_draw) (PySem.W.mg_of X G a3) (fun _ _ _ _ _ _ us hl => match us, hl with | [_, _], _ => rfl) (fun _ _ _ _ _ _ us hl => match us, hl with | [_, _], _ => rfl)
  have c__law_value : Fn l.prog w K mg base CX0 3 "_law_value" ["_law_pen_here"] (spValue [(Pt, lamQ1)]) := fnMk F4 (ok_value F4 T c__law_pick) (PySem.W.mg_of X G a4) (fun _ _ _ _ _ _ us hl => match us, hl with | [_], _ => rfl) (fun _ _ _ _ _ _ us hl => match us, hl with | [_], _ => rfl)
  have c__law_made : Fn l.prog w K mg base CX0 4 "_law_made" ["_law_first", "_law_second", "_law_third"] (spMade l.prog w K mg base [C0, C1, C2, C3, C4, C5, C6, C7, C8, C9, C10, C11, C12, C13, C14, C15, C16, C17, C18, C19, C20, C21, C22, C23, C24, C25, C26] [(Pt, lamQ1)]) := fnMk (F5.fun k5) (ok_made F5 (tb _ List.mem_cons_self) List.mem_cons_self (fun p hp e => tt_uniq hPd hp List.mem_cons_self e) T m_Fewest_1 m_NoList_k m_Greatest_2 m_Least_3 m_Least_k m_Latest_3 m_Bound_k m_Endless_2 m_Within_k m_Beyond_2 m_NeverLess_k m_Steady_1 m_Same_2 m_Surely_k m_Less_k m_Jump_1 m_Other_1 m_Counter_2 m_Undecided_k m_BatchBound_3 m_BatchEndless_k m_BestOrder_3 m_Fits_k m_Misfit_2 m_Ring_k m_Came_2 m_Taking_4 m_Taking_k m_PoolTaking_5 m_PoolTaking_k) (PySem.W.mg_of X G a5) (fun _ _ _ _ _ _ us hl => match us, hl with | [_, _, _], _ => rfl) (fun _ _ _ _ _ _ us hl => match us, hl with | [_, _, _], _ => rfl)
  exact ok_law F6 T c__law_pen c__law_value c__law_made i_CD___bool__ Gb (bMk F_CD___bool__ (fun _ _ _ _ _ _ us hl => match us, hl with | [_], _ => rfl)) BE m_Fewest_1 m_NoList_1 m_Least_3 m_Bound_2 m_Beyond_2 m_Taking_4
end K03
end
section
open PySem PySem.W PyProof.Rows
set_option maxRecDepth 100000 in
set_option maxHeartbeats 0 in
theorem PySem.Challenge.cw_latechunks_k03_papers_of_all_kinds_holds : PySem.Challenge.rw_latechunks_k03_papers_of_all_kinds.Holds := by
  w_on; o_law; k_head; (case hw => w_witness2)
  k_fill
  refine L3.walkG (l := PySem.Challenge.rw_latechunks_k03_papers_of_all_kinds) (n := 63) (k := 6) (x := "_law_script") (CX := fun _ => L2.CX0) rfl (by decide) rfl ⟨rfl, by decide, by decide⟩ (fun w h Y => PySem.W.km_in_of Y) ?F (fun _ _ _ _ _ z => z)
  case F =>
    intro w mg fa h Y KX G hmg
    refine' K03.all_mk (Pt := 786) KX G hmg ?a1 ?l1 ?c1 ?k1 ?a2 ?l2 ?c2 ?k2 ?a3 ?l3 ?c3 ?k3 ?a4 ?l4 ?c4 ?k4 ?a5 ?l5 ?c5 ?k5 ?a6 ?l6 ?c6 ?k6 ?a_CP ?a_CD ?a_CD___bool__ ?l_CD___bool__ ?c_CD___bool__ ?k_CD___bool__ ?i_CD___bool__ ?a_C0 ?a_C0___init__ ?l_C0___init__ ?c_C0___init__ ?k_C0___init__ ?i_C0___init__ ?a_C0___eq__ ?l_C0___eq__ ?c_C0___eq__ ?k_C0___eq__ ?i_C0___eq__ ?mk_C0 ?kc_C0 ?a_C1 ?a_C1___init__ ?l_C1___init__ ?c_C1___init__ ?k_C1___init__ ?i_C1___init__ ?a_C1___eq__ ?l_C1___eq__ ?c_C1___eq__ ?k_C1___eq__ ?i_C1___eq__ ?mk_C1 ?kc_C1 ?a_C2 ?a_C2___init__ ?l_C2___init__ ?c_C2___init__ ?k_C2___init__ ?i_C2___init__ ?a_C2___eq__ ?l_C2___eq__ ?c_C2___eq__ ?k_C2___eq__ ?i_C2___eq__ ?mk_C2 ?kc_C2 ?a_C3 ?a_C3___init__ ?l_C3___init__ ?c_C3___init__ ?k_C3___init__ ?i_C3___init__ ?a_C3___eq__ ?l_C3___eq__ ?c_C3___eq__ ?k_C3___eq__ ?i_C3___eq__ ?mk_C3 ?kc_C3 ?a_C4 ?a_C4___init__ ?l_C4___init__ ?c_C4___init__ ?k_C4___init__ ?i_C4___init__ ?a_C4___eq__ ?l_C4___eq__ ?c_C4___eq__ ?k_C4___eq__ ?i_C4___eq__ ?mk_C4 ?kc_C4 ?a_C5 ?a_C5___init__ ?l_C5___init__ ?c_C5___init__ ?k_C5___init__ ?i_C5___init__ ?a_C5___eq__ ?l_C5___eq__ ?c_C5___eq__ ?k_C5___eq__ ?i_C5___eq__ ?mk_C5 ?kc_C5 ?a_C6 ?a_C6___init__ ?l_C6___init__ ?c_C6___init__ ?k_C6___init__ ?i_C6___init__ ?a_C6___eq__ ?l_C6___eq__ ?c_C6___eq__ ?k_C6___eq__ ?i_C6___eq__ ?mk_C6 ?kc_C6 ?a_C7 ?a_C7___init__ ?l_C7___init__ ?c_C7___init__ ?k_C7___init__ ?i_C7___init__ ?a_C7___eq__ ?l_C7___eq__ ?c_C7___eq__ ?k_C7___eq__ ?i_C7___eq__ ?mk_C7 ?kc_C7 ?a_C8 ?a_C8___init__ ?l_C8___init__ ?c_C8___init__ ?k_C8___init__ ?i_C8___init__ ?a_C8___eq__ ?l_C8___eq__ ?c_C8___eq__ ?k_C8___eq__ ?i_C8___eq__ ?mk_C8 ?kc_C8 ?a_C9 ?a_C9___init__ ?l_C9___init__ ?c_C9___init__ ?k_C9___init__ ?i_C9___init__ ?a_C9___eq__ ?l_C9___eq__ ?c_C9___eq__ ?k_C9___eq__ ?i_C9___eq__ ?mk_C9 ?kc_C9 ?a_C10 ?a_C10___init__ ?l_C10___init__ ?c_C10___init__ ?k_C10___init__ ?i_C10___init__ ?a_C10___eq__ ?l_C10___eq__ ?c_C10___eq__ ?k_C10___eq__ ?i_C10___eq__ ?mk_C10 ?kc_C10 ?a_C11 ?a_C11___init__ ?l_C11___init__ ?c_C11___init__ ?k_C11___init__ ?i_C11___init__ ?a_C11___eq__ ?l_C11___eq__ ?c_C11___eq__ ?k_C11___eq__ ?i_C11___eq__ ?mk_C11 ?kc_C11 ?a_C12 ?a_C12___init__ ?l_C12___init__ ?c_C12___init__ ?k_C12___init__ ?i_C12___init__ ?a_C12___eq__ ?l_C12___eq__ ?c_C12___eq__ ?k_C12___eq__ ?i_C12___eq__ ?mk_C12 ?kc_C12 ?a_C13 ?a_C13___init__ ?l_C13___init__ ?c_C13___init__ ?k_C13___init__ ?i_C13___init__ ?a_C13___eq__ ?l_C13___eq__ ?c_C13___eq__ ?k_C13___eq__ ?i_C13___eq__ ?mk_C13 ?kc_C13 ?a_C14 ?a_C14___init__ ?l_C14___init__ ?c_C14___init__ ?k_C14___init__ ?i_C14___init__ ?a_C14___eq__ ?l_C14___eq__ ?c_C14___eq__ ?k_C14___eq__ ?i_C14___eq__ ?mk_C14 ?kc_C14 ?a_C15 ?a_C15___init__ ?l_C15___init__ ?c_C15___init__ ?k_C15___init__ ?i_C15___init__ ?a_C15___eq__ ?l_C15___eq__ ?c_C15___eq__ ?k_C15___eq__ ?i_C15___eq__ ?mk_C15 ?kc_C15 ?a_C16 ?a_C16___init__ ?l_C16___init__ ?c_C16___init__ ?k_C16___init__ ?i_C16___init__ ?a_C16___eq__ ?l_C16___eq__ ?c_C16___eq__ ?k_C16___eq__ ?i_C16___eq__ ?mk_C16 ?kc_C16 ?a_C17 ?a_C17___init__ ?l_C17___init__ ?c_C17___init__ ?k_C17___init__ ?i_C17___init__ ?a_C17___eq__ ?l_C17___eq__ ?c_C17___eq__ ?k_C17___eq__ ?i_C17___eq__ ?mk_C17 ?kc_C17 ?a_C18 ?a_C18___init__ ?l_C18___init__ ?c_C18___init__ ?k_C18___init__ ?i_C18___init__ ?a_C18___eq__ ?l_C18___eq__ ?c_C18___eq__ ?k_C18___eq__ ?i_C18___eq__ ?mk_C18 ?kc_C18 ?a_C19 ?a_C19___init__ ?l_C19___init__ ?c_C19___init__ ?k_C19___init__ ?i_C19___init__ ?a_C19___eq__ ?l_C19___eq__ ?c_C19___eq__ ?k_C19___eq__ ?i_C19___eq__ ?mk_C19 ?kc_C19 ?a_C20 ?a_C20___init__ ?l_C20___init__ ?c_C20___init__ ?k_C20___init__ ?i_C20___init__ ?a_C20___eq__ ?l_C20___eq__ ?c_C20___eq__ ?k_C20___eq__ ?i_C20___eq__ ?mk_C20 ?kc_C20 ?a_C21 ?a_C21___init__ ?l_C21___init__ ?c_C21___init__ ?k_C21___init__ ?i_C21___init__ ?a_C21___eq__ ?l_C21___eq__ ?c_C21___eq__ ?k_C21___eq__ ?i_C21___eq__ ?mk_C21 ?kc_C21 ?a_C22 ?a_C22___init__ ?l_C22___init__ ?c_C22___init__ ?k_C22___init__ ?i_C22___init__ ?a_C22___eq__ ?l_C22___eq__ ?c_C22___eq__ ?k_C22___eq__ ?i_C22___eq__ ?mk_C22 ?kc_C22 ?a_C23 ?a_C23___init__ ?l_C23___init__ ?c_C23___init__ ?k_C23___init__ ?i_C23___init__ ?a_C23___eq__ ?l_C23___eq__ ?c_C23___eq__ ?k_C23___eq__ ?i_C23___eq__ ?mk_C23 ?kc_C23 ?a_C24 ?a_C24___init__ ?l_C24___init__ ?c_C24___init__ ?k_C24___init__ ?i_C24___init__ ?a_C24___eq__ ?l_C24___eq__ ?c_C24___eq__ ?k_C24___eq__ ?i_C24___eq__ ?mk_C24 ?kc_C24 ?a_C25 ?a_C25___init__ ?l_C25___init__ ?c_C25___init__ ?k_C25___init__ ?i_C25___init__ ?a_C25___eq__ ?l_C25___eq__ ?c_C25___eq__ ?k_C25___eq__ ?i_C25___eq__ ?mk_C25 ?kc_C25 ?a_C26 ?a_C26___init__ ?l_C26___init__ ?c_C26___init__ ?k_C26___init__ ?i_C26___init__ ?a_C26___eq__ ?l_C26___eq__ ?c_C26___eq__ ?k_C26___eq__ ?i_C26___eq__ ?a_C26_own_row ?l_C26_own_row ?c_C26_own_row ?k_C26_own_row ?i_C26_own_row ?mk_C26 ?kc_C26 ?yb ?yc ?clA ?tyA ?cmA ?boA ?kitA ?kitPA ?kitDA ?kitLA ?fldA ?nfA ?z_isinstance ?z_int ?z_len ?z_abs ?z_list ?z_range ?z_repr ?z_bool ?hCPt ?nPPt ?tPPt ?hPd0
    (case a1 => k_is)
    (case l1 => k_is)
    (case c1 => k_is)
    (case k1 => k_is)
    (case a2 => k_is)
    (case l2 => k_is)
    (case c2 => k_is)
    (case k2 => k_is)
    (case a3 => k_is)
    (case l3 => k_is)
    (case c3 => k_is)
    (case k3 => k_is)
    (case a4 => k_is)
    (case l4 => k_is)
    (case c4 => k_is)
    (case k4 => k_is)
    (case a5 => k_is)
    (case l5 => k_is)
    (case c5 => k_is)
    (case k5 => k_is)
    (case a6 => k_is)
    (case l6 => k_is)
    (case c6 => k_is)
    (case k6 => k_is)
    (case a_CP => k_is)
    (case a_CD => k_is)
    (case a_CD___bool__ => k_is)
    (case l_CD___bool__ => k_is)
    (case c_CD___bool__ => k_is)
    (case k_CD___bool__ => k_is)
    (case i_CD___bool__ => k_is)
    (case a_C0 => k_is)
    (case a_C0___init__ => k_is)
    (case l_C0___init__ => k_is)
    (case c_C0___init__ => k_is)
    (case k_C0___init__ => k_is)
    (case i_C0___init__ => k_is)
    (case a_C0___eq__ => k_is)
    (case l_C0___eq__ => k_is)
    (case c_C0___eq__ => k_is)
    (case k_C0___eq__ => k_is)
    (case i_C0___eq__ => k_is)
    (case mk_C0 => k_is)
    (case kc_C0 => k_is)
    (case a_C1 => k_is)
    (case a_C1___init__ => k_is)
    (case l_C1___init__ => k_is)
    (case c_C1___init__ => k_is)
    (case k_C1___init__ => k_is)
    (case i_C1___init__ => k_is)
    (case a_C1___eq__ => k_is)
    (case l_C1___eq__ => k_is)
    (case c_C1___eq__ => k_is)
    (case k_C1___eq__ => k_is)
    (case i_C1___eq__ => k_is)
    (case mk_C1 => k_is)
    (case kc_C1 => k_is)
    (case a_C2 => k_is)
    (case a_C2___init__ => k_is)
    (case l_C2___init__ => k_is)
    (case c_C2___init__ => k_is)
    (case k_C2___init__ => k_is)
    (case i_C2___init__ => k_is)
    (case a_C2___eq__ => k_is)
    (case l_C2___eq__ => k_is)
    (case c_C2___eq__ => k_is)
    (case k_C2___eq__ => k_is)
    (case i_C2___eq__ => k_is)
    (case mk_C2 => k_is)
    (case kc_C2 => k_is)
    (case a_C3 => k_is)
    (case a_C3___init__ => k_is)
    (case l_C3___init__ => k_is)
    (case c_C3___init__ => k_is)
    (case k_C3___init__ => k_is)
    (case i_C3___init__ => k_is)
    (case a_C3___eq__ => k_is)
    (case l_C3___eq__ => k_is)
    (case c_C3___eq__ => k_is)
    (case k_C3___eq__ => k_is)
    (case i_C3___eq__ => k_is)
    (case mk_C3 => k_is)
    (case kc_C3 => k_is)
    (case a_C4 => k_is)
    (case a_C4___init__ => k_is)
    (case l_C4___init__ => k_is)
    (case c_C4___init__ => k_is)
    (case k_C4___init__ => k_is)
    (case i_C4___init__ => k_is)
    (case a_C4___eq__ => k_is)
    (case l_C4___eq__ => k_is)
    (case c_C4___eq__ => k_is)
    (case k_C4___eq__ => k_is)
    (case i_C4___eq__ => k_is)
    (case mk_C4 => k_is)
    (case kc_C4 => k_is)
    (case a_C5 => k_is)
    (case a_C5___init__ => k_is)
    (case l_C5___init__ => k_is)
    (case c_C5___init__ => k_is)
    (case k_C5___init__ => k_is)
    (case i_C5___init__ => k_is)
    (case a_C5___eq__ => k_is)
    (case l_C5___eq__ => k_is)
    (case c_C5___eq__ => k_is)
    (case k_C5___eq__ => k_is)
    (case i_C5___eq__ => k_is)
    (case mk_C5 => k_is)
    (case kc_C5 => k_is)
    (case a_C6 => k_is)
    (case a_C6___init__ => k_is)
    (case l_C6___init__ => k_is)
    (case c_C6___init__ => k_is)
    (case k_C6___init__ => k_is)
    (case i_C6___init__ => k_is)
    (case a_C6___eq__ => k_is)
    (case l_C6___eq__ => k_is)
    (case c_C6___eq__ => k_is)
    (case k_C6___eq__ => k_is)
    (case i_C6___eq__ => k_is)
    (case mk_C6 => k_is)
    (case kc_C6 => k_is)
    (case a_C7 => k_is)
    (case a_C7___init__ => k_is)
    (case l_C7___init__ => k_is)
    (case c_C7___init__ => k_is)
    (case k_C7___init__ => k_is)
    (case i_C7___init__ => k_is)
    (case a_C7___eq__ => k_is)
    (case l_C7___eq__ => k_is)
    (case c_C7___eq__ => k_is)
    (case k_C7___eq__ => k_is)
    (case i_C7___eq__ => k_is)
    (case mk_C7 => k_is)
    (case kc_C7 => k_is)
    (case a_C8 => k_is)
    (case a_C8___init__ => k_is)
    (case l_C8___init__ => k_is)
    (case c_C8___init__ => k_is)
    (case k_C8___init__ => k_is)
    (case i_C8___init__ => k_is)
    (case a_C8___eq__ => k_is)
    (case l_C8___eq__ => k_is)
    (case c_C8___eq__ => k_is)
    (case k_C8___eq__ => k_is)
    (case i_C8___eq__ => k_is)
    (case mk_C8 => k_is)
    (case kc_C8 => k_is)
    (case a_C9 => k_is)
    (case a_C9___init__ => k_is)
    (case l_C9___init__ => k_is)
    (case c_C9___init__ => k_is)
    (case k_C9___init__ => k_is)
    (case i_C9___init__ => k_is)
    (case a_C9___eq__ => k_is)
    (case l_C9___eq__ => k_is)
    (case c_C9___eq__ => k_is)
    (case k_C9___eq__ => k_is)
    (case i_C9___eq__ => k_is)
    (case mk_C9 => k_is)
    (case kc_C9 => k_is)
    (case a_C10 => k_is)
    (case a_C10___init__ => k_is)
    (case l_C10___init__ => k_is)
    (case c_C10___init__ => k_is)
    (case k_C10___init__ => k_is)
    (case i_C10___init__ => k_is)
    (case a_C10___eq__ => k_is)
    (case l_C10___eq__ => k_is)
    (case c_C10___eq__ => k_is)
    (case k_C10___eq__ => k_is)
    (case i_C10___eq__ => k_is)
    (case mk_C10 => k_is)
    (case kc_C10 => k_is)
    (case a_C11 => k_is)
    (case a_C11___init__ => k_is)
    (case l_C11___init__ => k_is)
    (case c_C11___init__ => k_is)
    (case k_C11___init__ => k_is)
    (case i_C11___init__ => k_is)
    (case a_C11___eq__ => k_is)
    (case l_C11___eq__ => k_is)
    (case c_C11___eq__ => k_is)
    (case k_C11___eq__ => k_is)
    (case i_C11___eq__ => k_is)
    (case mk_C11 => k_is)
    (case kc_C11 => k_is)
    (case a_C12 => k_is)
    (case a_C12___init__ => k_is)
    (case l_C12___init__ => k_is)
    (case c_C12___init__ => k_is)
    (case k_C12___init__ => k_is)
    (case i_C12___init__ => k_is)
    (case a_C12___eq__ => k_is)
    (case l_C12___eq__ => k_is)
    (case c_C12___eq__ => k_is)
    (case k_C12___eq__ => k_is)
    (case i_C12___eq__ => k_is)
    (case mk_C12 => k_is)
    (case kc_C12 => k_is)
    (case a_C13 => k_is)
    (case a_C13___init__ => k_is)
    (case l_C13___init__ => k_is)
    (case c_C13___init__ => k_is)
    (case k_C13___init__ => k_is)
    (case i_C13___init__ => k_is)
    (case a_C13___eq__ => k_is)
    (case l_C13___eq__ => k_is)
    (case c_C13___eq__ => k_is)
    (case k_C13___eq__ => k_is)
    (case i_C13___eq__ => k_is)
    (case mk_C13 => k_is)
    (case kc_C13 => k_is)
    (case a_C14 => k_is)
    (case a_C14___init__ => k_is)
    (case l_C14___init__ => k_is)
    (case c_C14___init__ => k_is)
    (case k_C14___init__ => k_is)
    (case i_C14___init__ => k_is)
    (case a_C14___eq__ => k_is)
    (case l_C14___eq__ => k_is)
    (case c_C14___eq__ => k_is)
    (case k_C14___eq__ => k_is)
    (case i_C14___eq__ => k_is)
    (case mk_C14 => k_is)
    (case kc_C14 => k_is)
    (case a_C15 => k_is)
    (case a_C15___init__ => k_is)
    (case l_C15___init__ => k_is)
    (case c_C15___init__ => k_is)
    (case k_C15___init__ => k_is)
    (case i_C15___init__ => k_is)
    (case a_C15___eq__ => k_is)
    (case l_C15___eq__ => k_is)
    (case c_C15___eq__ => k_is)
    (case k_C15___eq__ => k_is)
    (case i_C15___eq__ => k_is)
    (case mk_C15 => k_is)
    (case kc_C15 => k_is)
    (case a_C16 => k_is)
    (case a_C16___init__ => k_is)
    (case l_C16___init__ => k_is)
    (case c_C16___init__ => k_is)
    (case k_C16___init__ => k_is)
    (case i_C16___init__ => k_is)
    (case a_C16___eq__ => k_is)
    (case l_C16___eq__ => k_is)
    (case c_C16___eq__ => k_is)
    (case k_C16___eq__ => k_is)
    (case i_C16___eq__ => k_is)
    (case mk_C16 => k_is)
    (case kc_C16 => k_is)
    (case a_C17 => k_is)
    (case a_C17___init__ => k_is)
    (case l_C17___init__ => k_is)
    (case c_C17___init__ => k_is)
    (case k_C17___init__ => k_is)
    (case i_C17___init__ => k_is)
    (case a_C17___eq__ => k_is)
    (case l_C17___eq__ => k_is)
    (case c_C17___eq__ => k_is)
    (case k_C17___eq__ => k_is)
    (case i_C17___eq__ => k_is)
    (case mk_C17 => k_is)
    (case kc_C17 => k_is)
    (case a_C18 => k_is)
    (case a_C18___init__ => k_is)
    (case l_C18___init__ => k_is)
    (case c_C18___init__ => k_is)
    (case k_C18___init__ => k_is)
    (case i_C18___init__ => k_is)
    (case a_C18___eq__ => k_is)
    (case l_C18___eq__ => k_is)
    (case c_C18___eq__ => k_is)
    (case k_C18___eq__ => k_is)
    (case i_C18___eq__ => k_is)
    (case mk_C18 => k_is)
    (case kc_C18 => k_is)
    (case a_C19 => k_is)
    (case a_C19___init__ => k_is)
    (case l_C19___init__ => k_is)
    (case c_C19___init__ => k_is)
    (case k_C19___init__ => k_is)
    (case i_C19___init__ => k_is)
    (case a_C19___eq__ => k_is)
    (case l_C19___eq__ => k_is)
    (case c_C19___eq__ => k_is)
    (case k_C19___eq__ => k_is)
    (case i_C19___eq__ => k_is)
    (case mk_C19 => k_is)
    (case kc_C19 => k_is)
    (case a_C20 => k_is)
    (case a_C20___init__ => k_is)
    (case l_C20___init__ => k_is)
    (case c_C20___init__ => k_is)
    (case k_C20___init__ => k_is)
    (case i_C20___init__ => k_is)
    (case a_C20___eq__ => k_is)
    (case l_C20___eq__ => k_is)
    (case c_C20___eq__ => k_is)
    (case k_C20___eq__ => k_is)
    (case i_C20___eq__ => k_is)
    (case mk_C20 => k_is)
    (case kc_C20 => k_is)
    (case a_C21 => k_is)
    (case a_C21___init__ => k_is)
    (case l_C21___init__ => k_is)
    (case c_C21___init__ => k_is)
    (case k_C21___init__ => k_is)
    (case i_C21___init__ => k_is)
    (case a_C21___eq__ => k_is)
    (case l_C21___eq__ => k_is)
    (case c_C21___eq__ => k_is)
    (case k_C21___eq__ => k_is)
    (case i_C21___eq__ => k_is)
    (case mk_C21 => k_is)
    (case kc_C21 => k_is)
    (case a_C22 => k_is)
    (case a_C22___init__ => k_is)
    (case l_C22___init__ => k_is)
    (case c_C22___init__ => k_is)
    (case k_C22___init__ => k_is)
    (case i_C22___init__ => k_is)
    (case a_C22___eq__ => k_is)
    (case l_C22___eq__ => k_is)
    (case c_C22___eq__ => k_is)
    (case k_C22___eq__ => k_is)
    (case i_C22___eq__ => k_is)
    (case mk_C22 => k_is)
    (case kc_C22 => k_is)
    (case a_C23 => k_is)
    (case a_C23___init__ => k_is)
    (case l_C23___init__ => k_is)
    (case c_C23___init__ => k_is)
    (case k_C23___init__ => k_is)
    (case i_C23___init__ => k_is)
    (case a_C23___eq__ => k_is)
    (case l_C23___eq__ => k_is)
    (case c_C23___eq__ => k_is)
    (case k_C23___eq__ => k_is)
    (case i_C23___eq__ => k_is)
    (case mk_C23 => k_is)
    (case kc_C23 => k_is)
    (case a_C24 => k_is)
    (case a_C24___init__ => k_is)
    (case l_C24___init__ => k_is)
    (case c_C24___init__ => k_is)
    (case k_C24___init__ => k_is)
    (case i_C24___init__ => k_is)
    (case a_C24___eq__ => k_is)
    (case l_C24___eq__ => k_is)
    (case c_C24___eq__ => k_is)
    (case k_C24___eq__ => k_is)
    (case i_C24___eq__ => k_is)
    (case mk_C24 => k_is)
    (case kc_C24 => k_is)
    (case a_C25 => k_is)
    (case a_C25___init__ => k_is)
    (case l_C25___init__ => k_is)
    (case c_C25___init__ => k_is)
    (case k_C25___init__ => k_is)
    (case i_C25___init__ => k_is)
    (case a_C25___eq__ => k_is)
    (case l_C25___eq__ => k_is)
    (case c_C25___eq__ => k_is)
    (case k_C25___eq__ => k_is)
    (case i_C25___eq__ => k_is)
    (case mk_C25 => k_is)
    (case kc_C25 => k_is)
    (case a_C26 => k_is)
    (case a_C26___init__ => k_is)
    (case l_C26___init__ => k_is)
    (case c_C26___init__ => k_is)
    (case k_C26___init__ => k_is)
    (case i_C26___init__ => k_is)
    (case a_C26___eq__ => k_is)
    (case l_C26___eq__ => k_is)
    (case c_C26___eq__ => k_is)
    (case k_C26___eq__ => k_is)
    (case i_C26___eq__ => k_is)
    (case a_C26_own_row => k_is)
    (case l_C26_own_row => k_is)
    (case c_C26_own_row => k_is)
    (case k_C26_own_row => k_is)
    (case i_C26_own_row => k_is)
    (case mk_C26 => k_is)
    (case kc_C26 => k_is)
    (case yb => k_is)
    (case yc => k_is)
    (case clA => kernel_rfl)
    (case tyA => kernel_rfl)
    (case cmA => kernel_rfl)
    (case boA => kernel_rfl)
    (case kitA => kernel_rfl)
    (case kitPA => kernel_rfl)
    (case kitDA => kernel_rfl)
    (case kitLA => kernel_rfl)
    (case fldA => kernel_rfl)
    (case nfA => kernel_rfl)
    (case z_isinstance => k_is)
    (case z_int => k_is)
    (case z_len => k_is)
    (case z_abs => k_is)
    (case z_list => k_is)
    (case z_range => k_is)
    (case z_repr => k_is)
    (case z_bool => k_is)
    (case hCPt => kernel_rfl)
    (case nPPt => kernel_rfl)
    (case tPPt => first | exact PySem.W.km_tabs_of Y _ (by k_mem) | (trace_state; exact PySem.W.km_tabs_of Y _ (by k_mem)))
    (case hPd0 => decide)
end
