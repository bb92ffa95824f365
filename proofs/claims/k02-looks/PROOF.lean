import PyProof.Rows.All
import Wide.All
import OpenK.AllK
import Wide.FinOn
import HandS.ForMost
import HandS.Wide
import HandS.IsInst
import HandS.Defaults
import HandS.Evl
import HandS.EndTab
import HandS.Lambda
import HandS.Style
import HandS.Steps
import HandS.Text
import HandS.Walk
import PyProof.ReprRoads
import PyProof.ListStr
import PyProof.StrOps2
import PySem.Challenge.RW_latechunks_k02_looks_at_any_values
set_option Elab.async false
set_option linter.all false
set_option maxRecDepth 100000
set_option maxHeartbeats 4000000
section
namespace L3
open PySem PySem.Spec PyProof.Rows L2
/-! ## The pen: a list [cells, spot, rest] whose numbers are hidden; at most n draws so far -/
def PenO (a c : Addr) (n : Nat) : HO := .ext fun h => ∃ (spot rest : Int) (t u : Tok) (k : Nat),
  h.get? a = some { cls := .type "list", data := .seq #[.ref c, .int spot t, .int rest u] k } ∧ 0 ≤ spot ∧ spot ≤ n
theorem PenO_ok {P : Program} {w : World} {H : Hp} {h : Heap} {a c : Addr} {n : Nat} {spot rest : Int} {t u : Tok} {k : Nat}
    (e : h.get? a = some { cls := .type "list", data := .seq #[.ref c, .int spot t, .int rest u] k }) (h0 : 0 ≤ spot) (h1 : spot ≤ n) :
    ObjOk P w H h a (PenO a c n) :=
  ⟨⟨spot, rest, t, u, k, e, h0, h1⟩, ⟨_, e⟩, fun _ _ ⟨s, r, t, u, k, q, z⟩ f => ⟨s, r, t, u, k, f _ q, z⟩⟩
section
variable {X : Cx} {pins : List (Addr × Obj)} {σ : L2.St} {H : Hp} {s : Shared}
theorem Inv.penOpen {a c : Addr} {n : Nat} (I : Inv X pins σ H s) (h : H a = some (PenO a c n)) :
    ∃ spot rest : Int, 0 ≤ spot ∧ spot ≤ n ∧ Inv X pins σ (upd H a (.lst [.ref c, .int spot, .int rest])) s := by
  obtain ⟨⟨spot, rest, t, u, k, e, h0, h1⟩, _, _⟩ := (show ObjOk X.prog X.w H s.heap a (PenO a c n) from I.hok a _ h)
  refine ⟨spot, rest, h0, h1, ?_⟩
  have mu : Mut (H a) := by rw [h]; exact True.intro
  have := I.write (t' := s.toks) (h' := s.heap) (x := a) (e := a) (o := .lst [.ref c, .int spot, .int rest]) mu (.inl rfl) (fun _ _ _ q => q) ⟨_, e⟩
    ⟨(by rw [sizeLine_eq]; show 3 ≤ 16777216; decide), [.ref c, .int spot t, .int rest u], k, .cons rfl (.cons ⟨t, rfl⟩ (.cons ⟨u, rfl⟩ .nil)), e⟩
  exact this
theorem vals3 {x y z : V} {us : List Value} (r : Vals [x, y, z] us) : ∃ u v w, us = [u, v, w] ∧ RelV x u ∧ RelV y v ∧ RelV z w := by
  cases r with
  | cons r1 r =>
    cases r with
    | cons r2 r =>
      cases r with
      | cons r3 r =>
        cases r
        exact ⟨_, _, _, rfl, r1, r2, r3⟩
theorem Inv.penClose {a c : Addr} {n : Nat} {spot rest : Int} (I : Inv X pins σ H s) (h : H a = some (.lst [.ref c, .int spot, .int rest])) (h0 : 0 ≤ spot) (h1 : spot ≤ n) :
    Inv X pins σ (upd H a (PenO a c n)) s := by
  obtain ⟨_, its, k, r, e⟩ := (show ObjOk X.prog X.w H s.heap a (.lst _) from I.hok a _ h)
  obtain ⟨u, v, w, rfl, r1, ⟨t, r2⟩, ⟨t', r3⟩⟩ := vals3 r
  cases (show u = .ref c from r1)
  subst r2 r3
  have mu : Mut (H a) := by rw [h]; exact True.intro
  exact I.write (t' := s.toks) (h' := s.heap) (x := a) (e := a) (o := PenO a c n) mu (.inl rfl) (fun _ _ _ q => q) ⟨_, e⟩ (PenO_ok e h0 h1)
end
/-- inside: the list is known, behind: it is hidden again -/
def penBack (a c : Addr) (n : Nat) (P : Hp → Prop) (H : Hp) : Prop := ∃ spot rest : Int, H a = some (.lst [.ref c, .int spot, .int rest]) ∧ 0 ≤ spot ∧ spot ≤ n ∧ P (upd H a (PenO a c n))
def tPen (a c : Addr) (n m : Nat) (t : TS) : TS := fun D σ H => H a = some (PenO a c n) ∧ ∀ spot rest : Int, 0 ≤ spot → spot ≤ n →
  t { nx := fun σ' => penBack a c m (D.nx σ'), rt := fun v => penBack a c m (D.rt v), bk := fun σ' => penBack a c m (D.bk σ'), ct := fun σ' => penBack a c m (D.ct σ') } σ (upd H a (.lst [.ref c, .int spot, .int rest]))
theorem pss_pen {X : Cx} {sts : List Stmt} {t : TS} (a c : Addr) (n m : Nat) (h : PSs X sts t) : PSs X sts (tPen a c n m t) := by
  refine ⟨fun pins s σ H D I hw => ?_⟩
  obtain ⟨ha, hw⟩ := hw
  obtain ⟨spot, rest, h0, h1, I1⟩ := Inv.penOpen I ha
  refine thn (h.run pins s σ _ _ I1 (hw spot rest h0 h1)) fun f s' q => ?_
  cases f with
  | next =>
    obtain ⟨σ', H', I', sp, re, e, g0, g1, z⟩ := q
    exact ⟨σ', _, Inv.penClose I' e g0 g1, z⟩
  | brk =>
    obtain ⟨σ', H', I', sp, re, e, g0, g1, z⟩ := q
    exact ⟨σ', _, Inv.penClose I' e g0 g1, z⟩
  | cont =>
    obtain ⟨σ', H', I', sp, re, e, g0, g1, z⟩ := q
    exact ⟨σ', _, Inv.penClose I' e g0 g1, z⟩
  | ret u =>
    obtain ⟨v, σ', H', I', r, sp, re, e, g0, g1, z⟩ := q
    exact ⟨v, σ', _, Inv.penClose I' e g0 g1, r, z⟩
end L3
namespace L3
open PySem PySem.Spec PyProof.Rows L2
/-! ## Steps: what a reading asks, one rule each -/
section
variable {σ : L2.St} {H : Hp} {D : Ends} {t u : TS} {te ta tb : TE} {Q : VK} {v x y : V} {K : PySem.W.Frag}
theorem iteB {b : Bool} {A B : Prop} (h1 : b = true → A) (h2 : b = false → B) : if b = true then A else B := by
  cases b with
  | true => exact iteT (h1 rfl)
  | false => exact iteF (h2 rfl)
theorem iteD {c : Prop} {_ : Decidable c} {A B : Prop} (h1 : c → A) (h2 : ¬ c → B) : if decide c = true then A else B := iteB (fun h => h1 (of_decide_eq_true h)) (fun h => h2 (of_decide_eq_false h))
theorem iteND {c : Prop} {_ : Decidable c} {A B : Prop} (h1 : ¬ c → A) (h2 : c → B) : if (!decide c) = true then A else B := iteB (fun h => h1 (by simpa using h)) (fun h => h2 (by simpa using h))
theorem s_seq (h : t { D with nx := u D } σ H) : tSeq t u D σ H := h
theorem s_next (h : D.nx σ H) : tNext D σ H := h
theorem s_asg {i : Nat} (h : te σ H fun x H1 => D.nx (σ.set i (some x)) H1) : tAsg te (gName i) D σ H := h
theorem s_asgS {to ti : TE} {t : TSet} (h : te σ H fun v H1 => to σ H1 fun o H2 => ti σ H2 fun i H3 => t o i v H3 fun H4 => D.nx σ H4) : tAsg te (gSub to ti t) D σ H := h
theorem s_asgT {n : Nat} {tg : TGs} (h : te σ H fun x H1 => gTup K n tg x σ H1 D.nx) : tAsg te (gTup K n tg) D σ H := h
theorem s_drop (h : te σ H fun _ H1 => D.nx σ H1) : tDrop te D σ H := h
theorem s_ret (h : te σ H D.rt) : tRet te D σ H := h
theorem s_retN (h : D.rt .non H) : tRetN D σ H := h
theorem s_if {c : TT} (h : c σ H fun b H1 => if b = true then t D σ H1 else u D σ H1) : tIfS c t u D σ H := h
theorem s_var {i : Nat} (e : σ[i]? = some (some v)) (h : Q v H) : tVar i σ H Q := ⟨v, e, h⟩
theorem s_c (h : Q v H) : tC v σ H Q := h
theorem s_op {r : R2} (h : ta σ H fun x H1 => tb σ H1 fun y H2 => r x y H2 Q) : tOp r ta tb σ H Q := h
theorem s_un {r : V → Hp → VK → Prop} (h : ta σ H fun x H1 => r x H1 Q) : tUn r ta σ H Q := h
theorem s_cb {r : List V → Hp → VK → Prop} {tt : TA} (h : tt σ H fun vs H1 => r vs H1 Q) : tCB r tt σ H Q := h
theorem s_nil {Q : List V → Hp → Prop} (h : Q [] H) : tNil σ H Q := h
theorem s_cons {Q : List V → Hp → Prop} {tr : TA} (h : ta σ H fun x H1 => tr σ H1 fun xs H2 => Q (x :: xs) H2) : tCons ta tr σ H Q := h
theorem s_test {Q : Bool → Hp → Prop} (h : te σ H fun x H' => ∃ k, x = .bl k ∧ Q k H') : tTest te σ H Q := h
theorem s_tB {Q : Bool → Hp → Prop} (h : te σ H fun x H' => ∃ k, x = .bl k ∧ Q k H') : tB te σ H Q := h
theorem s_bl {R : Bool → Prop} {b : Bool} (h : R b) : ∃ k, V.bl b = .bl k ∧ R k := ⟨b, rfl, h⟩
theorem s_and {c d : TT} {Q : Bool → Hp → Prop} (h : c σ H fun b H1 => if b = true then d σ H1 Q else Q false H1) : tAnd c d σ H Q := h
theorem s_or {c d : TT} {Q : Bool → Hp → Prop} (h : c σ H fun b H1 => if b = true then Q true H1 else d σ H1 Q) : tOr c d σ H Q := h
theorem s_not {c : TT} {Q : Bool → Hp → Prop} (h : c σ H fun b H1 => Q (!b) H1) : tNot c σ H Q := h
theorem s_andV (h : ta σ H fun x H1 => ∃ c, x = .bl c ∧ if c = true then tb σ H1 Q else Q (.bl false) H1) : tAndV ta tb σ H Q := h
theorem s_orV (h : ta σ H fun x H1 => ∃ c, x = .bl c ∧ if c = true then Q (.bl true) H1 else tb σ H1 Q) : tOrV ta tb σ H Q := h
theorem s_notV (h : ta σ H fun x H1 => ∃ c, x = .bl c ∧ Q (.bl (!c)) H1) : tNotV ta σ H Q := h
theorem s_ifE {c : TT} (h : c σ H fun b H1 => if b = true then ta σ H1 Q else tb σ H1 Q) : tIf c ta tb σ H Q := h
theorem s_call {sp : Sp} {dvs : List V} {E : XK} {tt : TA} (h : tt σ H fun vs H1 => sp (vs ++ dvs) H1 Q E) : tCall sp dvs E tt σ H Q := h
theorem s_I0 {g : Int → Int → V} {i j : Int} (h : Q (g i j) H) : rI0 g (.int i) (.int j) H Q := ⟨i, j, rfl, rfl, h⟩
theorem s_I {C : Int → Int → Prop} {g : Int → Int → V} {i j : Int} (c : C i j) (h : Q (g i j) H) : rI C g (.int i) (.int j) H Q := ⟨i, j, rfl, rfl, c, h⟩
theorem s_U {g : Int → V} {i : Int} (h : Q (g i) H) : rU g (.int i) H Q := ⟨i, rfl, h⟩
theorem s_ixL {p : Addr} {xs : List V} {i : Int} (hp : H p = some (.lst xs)) (e : atI xs i = some v) (h : Q v H) : rIxL K (.ref p) (.int i) H Q := ⟨p, xs, i, v, rfl, rfl, .inl (.inl hp), e, h⟩
theorem s_ixT {p : Addr} {xs : List V} {i : Int} (hp : H p = some (.tup xs)) (e : atI xs i = some v) (h : Q v H) : rIxT K (.ref p) (.int i) H Q := ⟨p, xs, i, v, rfl, rfl, .inl (.inl hp), e, h⟩
theorem s_setL {p : Addr} {xs : List V} {i : Int} {j : Nat} {R : Hp → Prop} (hp : H p = some (.lst xs)) (e : ixN xs.length i = some j) (h : R (upd H p (.lst (xs.set j v)))) : rSetL (.ref p) (.int i) v H R := ⟨p, xs, i, j, rfl, rfl, hp, e, h⟩
theorem s_int {R : Int → Prop} {R' : Bool → Prop} {i : Int} (h : R i) : (∃ j, [V.int i] = [V.int j] ∧ R j) ∨ ∃ k, [V.int i] = [V.bl k] ∧ R' k := .inl ⟨i, rfl, h⟩
theorem s_intB {R : Int → Prop} {R' : Bool → Prop} {b : Bool} (h : R' b) : (∃ j, [V.bl b] = [V.int j] ∧ R j) ∨ ∃ k, [V.bl b] = [V.bl k] ∧ R' k := .inr ⟨b, rfl, h⟩
theorem s_abs {R : Int → Prop} {i : Int} (h : R i) : ∃ j, [V.int i] = [V.int j] ∧ R j := ⟨i, rfl, h⟩
theorem s_lenL {R : Nat → Prop} {p : Addr} {xs : List V} (hp : H p = some (.lst xs)) (h : R xs.length) : ∃ x n, [V.ref p] = [x] ∧ LenV K x H n ∧ R n := ⟨_, _, rfl, .inl ⟨xs, .inl (.inl hp), rfl⟩, h⟩
theorem s_lenS {R : Nat → Prop} {z : Str} (hz : z.length ≤ sizeLine) (h : R z.length) : ∃ x n, [V.str z] = [x] ∧ LenV K x H n ∧ R n := ⟨_, _, rfl, ⟨hz, rfl⟩, h⟩
/-- all that is tracked stays -/
theorem ex_new {p : Addr} {o : HO} (h : H p = none) : ∀ b u, H b = some u → upd H p o b = some u := fun b u e => by
  rw [upd_ne (ne_of_none e h)]; exact e
def Ex (H H' : Hp) : Prop := ∀ b o, H b = some o → H' b = some o
theorem Ex.refl (H : Hp) : Ex H H := fun _ _ h => h
theorem Ex.trans {H H1 H2 : Hp} (a : Ex H H1) (b : Ex H1 H2) : Ex H H2 := fun x o h => b x o (a x o h)
theorem Ex.free {H H' : Hp} (e : Ex H H') {p : Addr} (h : H' p = none) : H p = none := by
  cases q : H p with
  | none => rfl
  | some o => rw [e _ _ q] at h; cases h
/-- what is wanted of a new thing (kept from being reduced) -/
def ap (Q : VK) (v : V) (H : Hp) : Prop := Q v H
theorem s_lst {tt : TA} (h : tt σ H fun xs H1 => xs.length ≤ sizeLine ∧ ∀ p, H1 p = none → ap Q (.ref p) (upd H1 p (.lst xs))) : tLst tt σ H Q := h
theorem s_tup {tt : TA} (h : tt σ H fun xs H1 => xs.length ≤ sizeLine ∧ ∀ p, H1 p = none → ap Q (.ref p) (upd H1 p (.tup xs))) : tTup tt σ H Q := h
theorem s_new {o : HO} {n : Nat} (hz : n ≤ sizeLine) (h : ∀ p H2, H p = none → Ex H H2 → H2 p = some o → Q (.ref p) H2) : n ≤ sizeLine ∧ ∀ p, H p = none → ap Q (.ref p) (upd H p o) :=
  ⟨hz, fun p hp => h p _ hp (ex_new hp) upd_same⟩
theorem s_cut {M : L2.St → Hp → Prop} (h : t { D with nx := M } σ H) (k : ∀ σ' H', M σ' H' → u D σ' H') : Evl.tCut t u D σ H := ⟨M, h, k⟩
theorem sz100 {n : Nat} (h : n ≤ 100000) : n ≤ sizeLine := Nat.le_trans h (by decide)
theorem dpInts {H : Hp} : ∀ ns : List Int, DpAll K H (ns.map V.int) (ns.map PyData.int)
  | [] => .nil
  | _ :: r => .cons (.int _) (dpInts r)
theorem s_neD {d e : PyData} (hd : Dp K H x d) (he : Dp K H y e) (sd : SeqAt.shaped d = true) (se : SeqAt.shaped e = true) (h : Q (.bl (!PyData.eqv d e)) H) : rNeD K x y H Q := ⟨d, e, hd, he, sd, se, h⟩
theorem s_eqD {d e : PyData} (hd : Dp K H x d) (he : Dp K H y e) (sd : SeqAt.shaped d = true) (se : SeqAt.shaped e = true) (h : Q (.bl (PyData.eqv d e)) H) : rEqD K x y H Q := ⟨d, e, hd, he, sd, se, h⟩
end
end L3
namespace L3
open PySem PySem.Spec PyProof.Rows L2
def lim : Nat := 1000000
/-- the pen's cells: a list of numbers, hidden too -/
def ScO (c : Addr) (ns : List Int) : HO := .ext fun h => ∃ (its : List Value) (k : Nat), (ns.map V.int).length ≤ sizeLine ∧ Vals (ns.map V.int) its ∧ h.get? c = some { cls := .type "list", data := .seq its.toArray k }
section
variable {X : Cx} {pins : List (Addr × Obj)} {σ : L2.St} {H : Hp} {s : Shared}
theorem Inv.scOpen {c : Addr} {ns : List Int} (I : Inv X pins σ H s) (h : H c = some (ScO c ns)) : Inv X pins σ (upd H c (.lst (ns.map V.int))) s := by
  obtain ⟨⟨its, k, hz, r, e⟩, _, _⟩ := (show ObjOk X.prog X.w H s.heap c (ScO c ns) from I.hok c _ h)
  have mu : Mut (H c) := by rw [h]; exact True.intro
  exact I.write (t' := s.toks) (h' := s.heap) (x := c) (e := c) (o := .lst (ns.map V.int)) mu (.inl rfl) (fun _ _ _ q => q) ⟨_, e⟩ ⟨hz, its, k, r, e⟩
theorem Inv.scClose {c : Addr} {ns : List Int} (I : Inv X pins σ H s) (h : H c = some (.lst (ns.map V.int))) : Inv X pins σ (upd H c (ScO c ns)) s := by
  obtain ⟨hz, its, k, r, e⟩ := (show ObjOk X.prog X.w H s.heap c (.lst _) from I.hok c _ h)
  have mu : Mut (H c) := by rw [h]; exact True.intro
  exact I.write (t' := s.toks) (h' := s.heap) (x := c) (e := c) (o := ScO c ns) mu (.inl rfl) (fun _ _ _ q => q) ⟨_, e⟩
    ⟨⟨its, k, hz, r, e⟩, ⟨_, e⟩, fun _ _ ⟨i, k, z, r, q⟩ f => ⟨i, k, z, r, f _ q⟩⟩
end
def scBack (c : Addr) (ns : List Int) (P : Hp → Prop) (H : Hp) : Prop := H c = some (.lst (ns.map V.int)) ∧ P (upd H c (ScO c ns))
def tSc (c : Addr) (ns : List Int) (t : TS) : TS := fun D σ H => H c = some (ScO c ns) ∧
  t { nx := fun σ' => scBack c ns (D.nx σ'), rt := fun v => scBack c ns (D.rt v), bk := fun σ' => scBack c ns (D.bk σ'), ct := fun σ' => scBack c ns (D.ct σ') } σ (upd H c (.lst (ns.map V.int)))
theorem pss_sc {X : Cx} {sts : List Stmt} {t : TS} (c : Addr) (ns : List Int) (h : PSs X sts t) : PSs X sts (tSc c ns t) := by
  refine ⟨fun pins s σ H D I hw => ?_⟩
  obtain ⟨ha, hw⟩ := hw
  refine thn (h.run pins s σ _ _ (Inv.scOpen I ha) hw) fun f s' q => ?_
  cases f with
  | next =>
    obtain ⟨σ', H', I', e, z⟩ := q
    exact ⟨σ', _, Inv.scClose I' e, z⟩
  | brk =>
    obtain ⟨σ', H', I', e, z⟩ := q
    exact ⟨σ', _, Inv.scClose I' e, z⟩
  | cont =>
    obtain ⟨σ', H', I', e, z⟩ := q
    exact ⟨σ', _, Inv.scClose I' e, z⟩
  | ret u =>
    obtain ⟨v, σ', H', I', r, e, z⟩ := q
    exact ⟨v, σ', _, Inv.scClose I' e, r, z⟩
def Pen (H : Hp) (a : Addr) (n : Nat) : Prop := ∃ c ns, H a = some (PenO a c n) ∧ H c = some (ScO c ns) ∧ ns.length ≤ 63 ∧ c ≠ a
def NoTbl : HO → Prop
  | .tbl _ => False
  | _ => True
/-- all but the pen at a and the tables of code objects stays -/
def Xt (a : Addr) (H H' : Hp) : Prop := ∀ b o, b ≠ a → NoTbl o → H b = some o → H' b = some o
abbrev rInt1 : List V → Hp → VK → Prop := fun xs H Q => (∃ i, xs = [V.int i] ∧ Q (V.int i) H) ∨ ∃ k, xs = [V.bl k] ∧ Q (V.int (if k then 1 else 0)) H
abbrev rLen1 (K : PySem.W.Frag) : List V → Hp → VK → Prop := fun xs H Q => ∃ x n, xs = [x] ∧ LenV K x H n ∧ Q (V.int ((n : Nat) : Int)) H
abbrev rAbs1 : List V → Hp → VK → Prop := fun xs H Q => ∃ i, xs = [V.int i] ∧ Q (V.int (if i < 0 then -i else i)) H
/-- == and != of flat things, or of data -/
def rEqU (K : PySem.W.Frag) : R2 := fun x y H Q => rEq x y H Q ∨ rEqD K x y H Q
def rNeU (K : PySem.W.Frag) : R2 := fun x y H Q => rNe x y H Q ∨ rNeD K x y H Q
theorem dec_eqI (i j : Int) : decide (V.int i = V.int j) = decide (i = j) := by
  by_cases h : i = j
  · subst h; simp
  · rw [decide_eq_false h, decide_eq_false (fun z => h (V.int.inj z))]
theorem dec_eqS (i j : Str) : decide (V.str i = V.str j) = decide (i = j) := by
  by_cases h : i = j
  · subst h; simp
  · rw [decide_eq_false h, decide_eq_false (fun z => h (V.str.inj z))]
section
variable {K : PySem.W.Frag} {H : Hp} {Q : VK} {x y : V}
theorem s_eqI {i j : Int} (h : Q (.bl (decide (i = j))) H) : rEqU K (.int i) (.int j) H Q := .inl ⟨rfl, by rw [dec_eqI]; exact h⟩
theorem s_neI {i j : Int} (h : Q (.bl (!decide (i = j))) H) : rNeU K (.int i) (.int j) H Q := .inl ⟨rfl, by rw [dec_eqI]; exact h⟩
theorem s_eqS {i j : Str} (h : Q (.bl (decide (i = j))) H) : rEqU K (.str i) (.str j) H Q := .inl ⟨rfl, by rw [dec_eqS]; exact h⟩
theorem s_neS {i j : Str} (h : Q (.bl (!decide (i = j))) H) : rNeU K (.str i) (.str j) H Q := .inl ⟨rfl, by rw [dec_eqS]; exact h⟩
theorem s_neD' {d e : PyData} (hd : Dp K H x d) (he : Dp K H y e) (sd : SeqAt.shaped d = true) (se : SeqAt.shaped e = true) (h : Q (.bl (!PyData.eqv d e)) H) : rNeU K x y H Q := .inr ⟨d, e, hd, he, sd, se, h⟩
theorem s_eqD' {d e : PyData} (hd : Dp K H x d) (he : Dp K H y e) (sd : SeqAt.shaped d = true) (se : SeqAt.shaped e = true) (h : Q (.bl (PyData.eqv d e)) H) : rEqU K x y H Q := .inr ⟨d, e, hd, he, sd, se, h⟩
end
end L3
end
section
namespace L3
open PySem PySem.Spec PyProof.Rows L2
/-! ## Defs whose promise holds where no repr is under way (guards = some []) -/
structure FnG (P : Program) (w : World) (K : PySem.W.Frag) (mg : Str → Option Value) (base : Heap) (CX : CXT) (k : Nat) (f : Addr) (fd : FuncData) (ps : List Str) (sp : Sp) : Prop where
  len : ∀ vs H Q E, sp vs H Q E → vs.length = ps.length
  run : ∀ (A : Around) (fr : List Env) (s : Shared) (H : Hp) (as : Args) (us : List Value) (vs : List V) (Q : VK) (E : XK), Room k A → A.guards = some [] → Env0 P w K mg base A fr s H →
    BindsTo s fd as (ps.zip us) → Vals vs us → sp vs H Q E → codeAny (model P w) A (.call (.ref f) as) (CR CX fr P w H s Q E) s
theorem FnG.of {P : Program} {w : World} {K : PySem.W.Frag} {mg : Str → Option Value} {base : Heap} {CX : CXT} {k : Nat} {f : Addr} {fd : FuncData} {ps : List Str} {sp : Sp} (F : FnOk P w K mg base CX k f fd ps sp) : FnG P w K mg base CX k f fd ps sp :=
  ⟨F.len, fun A fr s H as us vs Q E r _ => F.run A fr s H as us vs Q E r⟩
/-- THE RULE for such a def -/
theorem funG {P : Program} {w : World} {K : PySem.W.Frag} {mg : Str → Option Value} {base : Heap} {CX : CXT} {x qual : Str} {st : Stmt} {f : Addr} {fd : FuncData} {N ps : List Str} {k : Nat} {sp : Sp}
    (F : Fun K x qual st f fd) (S : FnScope N ps (defScope st)) (len : ∀ vs H Q E, sp vs H Q E → vs.length = ps.length)
    (body : ∀ (cd : Value) (A : Around) (fr : List Env) (s : Shared) (H : Hp) (vs : List V) (Q : VK) (E : XK), Room k (A.deeper (envOfC qual (defScope st) s.heap.objs.size f cd)) → A.guards = some [] → sp vs H Q E →
      ∃ t, PSs (cxOf CX P w K mg base N qual (defScope st) f cd A fr s H E) (defBody st) t ∧ t { nx := fun _ H' => Q .non H', rt := Q } (L2.start N vs) H) :
    FnG P w K mg base CX (k + 1) f fd ps sp := by
  obtain ⟨oc, od, kV, doc, pm, an, cd, ct, sl, rfl, lk, hcd⟩ := F.ex
  exact ⟨len, fun A fr s H as us vs Q E hr hg e0 hb r h => LamX.run_ofS lk hcd S hr e0 hb r (len _ _ _ _ h) fun hr' => body cd A fr s H vs Q E hr' hg h⟩
/-- a def whose code object is known (it makes lambdas) -/
structure FunC (K : PySem.W.Frag) (x qual : Str) (st : Stmt) (c f : Addr) (fd : FuncData) : Prop where
  ex : ∃ (oc : Value) (od : Option Addr) (kV doc pm : Value) (an : Option Addr) (ct : Value) (osl : Array (Option Value)),
    fd = PySem.W.fnOf x qual (defArgs st) (defBody st) (defScope st) .none kV doc pm an (.ref c) ct ∧ K.lookup f = some ⟨oc, od, .func fd, osl⟩ ∧ PySem.W.codeIn K (.ref c) qual = true
theorem FunC.fun {K : PySem.W.Frag} {x qual : Str} {st : Stmt} {c f : Addr} {fd : FuncData} (F : FunC K x qual st c f fd) (k : PySem.W.keepIn K (.ref f) = true) : Fun K x qual st f fd := by
  obtain ⟨oc, od, kV, doc, pm, an, ct, sl, e, l, h⟩ := F.ex
  exact ⟨⟨oc, od, kV, doc, pm, an, .ref c, ct, sl, e, l, h⟩, k⟩
theorem funGC {P : Program} {w : World} {K : PySem.W.Frag} {mg : Str → Option Value} {base : Heap} {CX : CXT} {x qual : Str} {st : Stmt} {c f : Addr} {fd : FuncData} {N ps : List Str} {k : Nat} {sp : Sp}
    (F : FunC K x qual st c f fd) (S : FnScope N ps (defScope st)) (len : ∀ vs H Q E, sp vs H Q E → vs.length = ps.length)
    (body : ∀ (A : Around) (fr : List Env) (s : Shared) (H : Hp) (vs : List V) (Q : VK) (E : XK), Room k (A.deeper (envOfC qual (defScope st) s.heap.objs.size f (.ref c))) → A.guards = some [] → sp vs H Q E →
      ∃ t, PSs (cxOf CX P w K mg base N qual (defScope st) f (.ref c) A fr s H E) (defBody st) t ∧ t { nx := fun _ H' => Q .non H', rt := Q } (L2.start N vs) H) :
    FnG P w K mg base CX (k + 1) f fd ps sp := by
  obtain ⟨oc, od, kV, doc, pm, an, ct, sl, rfl, lk, hcd⟩ := F.ex
  exact ⟨len, fun A fr s H as us vs Q E hr hg e0 hb r h => LamX.run_ofS lk hcd S hr e0 hb r (len _ _ _ _ h) fun hr' => body A fr s H vs Q E hr' hg h⟩
/-- the same for a def with defaults -/
theorem funDG {P : Program} {w : World} {K : PySem.W.Frag} {mg : Str → Option Value} {base : Heap} {CX : CXT} {x qual : Str} {pa : Arguments} {bd : List Stmt} {sc : Scope} {dvs : List V} {kws : List (Str × V)} {f : Addr} {fd : FuncData} {N ps : List Str} {k : Nat} {sp : Sp}
    (F : FunD K x qual pa bd sc dvs kws f fd) (S : FnScope N ps sc) (len : ∀ vs H Q E, sp vs H Q E → vs.length = ps.length)
    (body : ∀ (cd : Value) (A : Around) (fr : List Env) (s : Shared) (H : Hp) (vs : List V) (Q : VK) (E : XK), Room k (A.deeper (envOfC qual sc s.heap.objs.size f cd)) → A.guards = some [] → sp vs H Q E →
      ∃ t, PSs (cxOf CX P w K mg base N qual sc f cd A fr s H E) bd t ∧ t { nx := fun _ H' => Q .non H', rt := Q } (L2.start N vs) H) :
    FnG P w K mg base CX (k + 1) f fd ps sp := by
  obtain ⟨oc, od, dV, kV, doc, pm, an, cd, ct, sl, rfl, lk, hcd, _⟩ := F.ex
  exact ⟨len, fun A fr s H as us vs Q E hr hg e0 hb r h => LamX.run_ofS lk hcd S hr e0 hb r (len _ _ _ _ h) fun hr' => body cd A fr s H vs Q E hr' hg h⟩
section
variable {X : Cx} {CX : CXT} {k : Nat} {f : Addr} {fd : FuncData} {ps : List Str} {sp : Sp} {E : XK} {x : Str} {p pos : Pos} {e : Expr} {es : List Expr} {t : TA}
theorem runG {pins : List (Addr × Obj)} {σ : L2.St} {H : Hp} {s : Shared} {Q : VK} {us : List Value} {vs : List V} (F : FnG X.prog X.w X.K X.mg X.base CX k f fd ps sp) (hr : Room k X.A) (hg : X.A.guards = some [])
    (hb : Binds X.K fd ps []) (hx : Passes CX X E) (I : Inv X pins σ H s) (r : Vals vs us) (h : sp vs H Q E) : wpAny (model X.prog X.w) X.A (call (.ref f) us) (EP X pins σ Q) X.xe s := by
  have hl : (us ++ []).length = ps.length := by rw [List.append_nil, ← r.length]; exact F.len _ _ _ _ h
  have b := hb s us I.kIn hl
  rw [List.append_nil] at b
  refine wpAny_call (codeAny_mono (F.run X.A X.stack s H ⟨us, []⟩ us vs Q E hr hg I.env0 b r h) fun q s' z => ?_)
  match q, z with
  | .error e, z => exact hx pins σ H s e s' I z
  | .ok (.ret u), z => exact I.after z
/-- a def of the module, called by its name, as one bundle -/
structure Fn (P : Program) (w : World) (K : PySem.W.Frag) (mg : Str → Option Value) (base : Heap) (CX : CXT) (k : Nat) (x : Str) (ps : List Str) (sp : Sp) : Prop where
  ex : ∃ (f : Addr) (fd : FuncData), FnG P w K mg base CX k f fd ps sp ∧ mg x = some (.ref f) ∧ PySem.W.keepIn K (.ref f) = true ∧ Binds K fd ps [] ∧
    ∀ (s : Shared) (ws : List Value), K.In s.heap → ws.length = ps.length → BindsTo s fd ⟨[], ps.zip ws⟩ (ps.zip ws)
theorem pe_f {j : Nat} (c : Fn X.prog X.w X.K X.mg X.base CX k x ps sp) (hr : Room j X.A) (hg : X.A.guards = some []) (hx : Passes CX X E) (ha : PA X (e :: es) t) (hk : k ≤ j := by decide) (gl : Gl X x := by rfl)
    (hdb : (x == ("__debug__" : Str)) = false := by decide) (he : starEach (e :: es) X.env = (false, eval e X.env) :: starEach es X.env := by rfl) (hpl : (backTo pos (starEach es X.env)).any (·.1) = false := by rfl) :
    PE X (.Call (.Name x p) (e :: es) [] pos) (tCall sp [] E t) := by
  obtain ⟨f, fd, F, m, kp, b, _⟩ := c.ex
  constructor
  intro pins s σ H Q I h
  refine wpAny_Call_Name_kw (ld_glob I gl m ?_ hdb)
  refine PySem.W.callWith_K (h₀ := X.base) I.ok.mod.kin kp (thn (ha.run pos pins s σ H _ I h) fun us s1 q => ?_) he hpl
  obtain ⟨vs, H1, I1, r, q⟩ := q
  rw [List.append_nil] at q
  exact ⟨I1.kIn, runG F (hr.mono hk) hg b hx I1 r q⟩
theorem pe_f0 {j : Nat} (c : Fn X.prog X.w X.K X.mg X.base CX k x ps sp) (hr : Room j X.A) (hg : X.A.guards = some []) (hx : Passes CX X E) (hk : k ≤ j := by decide) (gl : Gl X x := by rfl)
    (hdb : (x == ("__debug__" : Str)) = false := by decide) : PE X (.Call (.Name x p) [] [] pos) (tCall sp [] E tNil) := by
  obtain ⟨f, fd, F, m, kp, b, _⟩ := c.ex
  constructor
  intro pins s σ H Q I h
  exact wpAny_Call_Name_kw (ld_glob I gl m (PySem.W.callWith_K0 I.kIn kp (runG (us := []) F (hr.mono hk) hg b hx I .nil h)) hdb)
/-- f(k = e, ..): every parameter by its name, in order -/
theorem pe_fk {j : Nat} {kws : List Keyword} (c : Fn X.prog X.w X.K X.mg X.base CX k x ps sp) (hr : Room j X.A) (hg : X.A.guards = some []) (hx : Passes CX X E) (ha : PK X kws t) (hk : k ≤ j := by decide) (gl : Gl X x := by rfl)
    (hall : (backToKw pos (keywordEach kws X.env)).all (·.1.isSome) = true := by rfl) (hks : (backToKw pos (keywordEach kws X.env)).filterMap (·.1) = ps := by rfl) (hpl : ((backTo pos (starEach [] X.env)).any (·.1) || (backToKw pos (keywordEach kws X.env)).any (·.1.isNone)) = false := by rfl)
    (hdb : (x == ("__debug__" : Str)) = false := by decide) : PE X (.Call (.Name x p) [] kws pos) (tCall sp [] E t) := by
  obtain ⟨f, fd, F, m, kp, _, b⟩ := c.ex
  constructor
  intro pins s σ H Q I h
  refine wpAny_Call_Name_kw (ld_glob I gl m (PySem.W.callWith_KW0 (h₀ := X.base) I.ok.mod.kin kp hall (thn (ha.run pos pins s σ H _ I h) fun us s1 q => ?_) hpl) hdb)
  obtain ⟨vs, H1, I1, r, q⟩ := q
  rw [List.append_nil] at q
  rw [hks]
  refine ⟨I1.kIn, ?_⟩
  have hl : us.length = ps.length := by rw [← r.length]; exact F.len _ _ _ _ q
  refine wpAny_call (codeAny_mono (F.run X.A X.stack s1 H1 ⟨[], ps.zip us⟩ us vs Q E (hr.mono hk) hg I1.env0 (b s1 us I1.kIn hl) r q) fun y s' z => ?_)
  match y, z with
  | .error e, z => exact hx pins σ H1 s1 e s' I1 z
  | .ok (.ret u), z => exact I1.after z
/-- a class of the module, made by its name -/
structure Mc (P : Program) (w : World) (K : PySem.W.Frag) (mg : Str → Option Value) (base : Heap) (CX : CXT) (k : Nat) (x : Str) (C : Addr) (ps : List Str) (sp : Sp) (dvs : List V) : Prop where
  ex : ∃ (f : Addr) (fd : FuncData) (ds : List Value), FnG P w K mg base CX k f fd ps sp ∧ mg x = some (.ref C) ∧ Mk K C f ∧ Binds K fd ps ds ∧ Vals dvs ds
theorem under_make {A : Around} {C : Addr} {us : List Value} {kw : List (Str × Value)} (h : A.guards = some []) : (A.under (.builtin "type.__call__" ⟨.ref C :: us, kw⟩)).guards = some [] := by
  show pushGuards (Code.guards (Code.builtin "type.__call__" { pos := Value.ref C :: us, kw := kw })) A.guards = some []
  rw [h]
  first | rfl | simp [Code.guards, Code.isGuard, guardIds, pushGuards]
theorem pe_mkG {j : Nat} {C : Addr} {dvs : List V} (c : Mc X.prog X.w X.K X.mg X.base CX k x C ps sp dvs) (hr : Room j X.A) (hg : X.A.guards = some []) (hx : Passes CX X E) (ha : PA X (e :: es) t) (hk : k + 1 ≤ j := by decide) (gl : Gl X x := by rfl)
    (hdb : (x == ("__debug__" : Str)) = false := by decide) (he : starEach (e :: es) X.env = (false, eval e X.env) :: starEach es X.env := by rfl) (hpl : (backTo pos (starEach es X.env)).any (·.1) = false := by rfl) :
    PE X (.Call (.Name x p) (e :: es) [] pos) (tMake C sp dvs E t) := by
  obtain ⟨f, fd, ds, F, m, M, b, hd⟩ := c.ex
  constructor
  intro pins s σ H Q I h
  refine wpAny_Call_Name_kw (ld_glob I gl m ?_ hdb)
  refine PySem.W.callWith_K (h₀ := X.base) I.ok.mod.kin M.kp (thn (ha.run pos pins s σ H _ I h) fun us s1 q => ?_) he hpl
  obtain ⟨vs, H1, I1, r, q⟩ := q
  refine ⟨I1.kIn, ?_⟩
  have q1 := q (s1.heap.objs.size + 1) s1.heap.objs.size (I1.hok.fresh (Nat.le_succ _)) (I1.hok.fresh (Nat.le_refl _)) (Nat.ne_of_lt (Nat.lt_succ_self _))
  have I2 := Inv.made (C := C) I1
  have r2 : Vals (V.ref (s1.heap.objs.size + 1) :: (vs ++ dvs)) (Value.ref (s1.heap.objs.size + 1) :: (us ++ ds)) := .cons rfl (r.append hd)
  have hl : (Value.ref (s1.heap.objs.size + 1) :: us ++ ds).length = ps.length := by
    have z := r2.length
    rw [F.len _ _ _ _ q1] at z
    exact z.symm
  have hr' : Room (k + 1) X.A := hr.mono hk
  refine wpAny_call (make_map (f := f) I1.kIn M.makes M.init (beq_iff_eq.mp M.fn) (codeAny_mono (F.run _ X.stack _ _ ⟨Value.ref (s1.heap.objs.size + 1) :: us, []⟩ (Value.ref (s1.heap.objs.size + 1) :: (us ++ ds)) _ _ E
    (hr'.make C us []) (under_make hg) (I2.env0.make C us []) (b _ (Value.ref (s1.heap.objs.size + 1) :: us) I2.kIn hl) r2 q1) fun y s' z => ?_))
  match y, z with
  | .error e, z => exact hx pins σ _ _ e s' I2 z
  | .ok (.ret u), z =>
    obtain ⟨v, H', I3, rv, ev, q3⟩ := I2.after z
    subst ev
    exact ⟨rv, ⟨V.ref (s1.heap.objs.size + 1), H', I3, rfl, q3⟩⟩
end
end L3
namespace L3
open PySem PySem.Spec PyProof.Rows L2 LamX
/-! ## The end: the law is called from outside; its tables of code objects are empty then -/
/-- what is tracked at the law's entry: the script, locked, where it is no object of the module's own; the tables -/
def H0 (K : PySem.W.Frag) (a : Addr) (o : Obj) (xs : List V) (ts : List Addr) : Hp := fun b =>
  if b ∈ ts then some (.tbl #[]) else if b = a ∧ (K.lookup a).isNone = true then some (.frz o (.lst xs)) else none
theorem lawG {P : Program} {w : World} {K : PySem.W.Frag} {mg mb : Str → Option Value} {CX : CXT} {k : Nat} {fa a : Addr} {cs : List (Addr × Addr)} {fd : FuncData} {x : Str} {sp : Sp} {s : Shared} {vs : List Value} {ns : List Int}
    (kin : K.In s.heap) (glo : s.heap.Ns mainGlobals mg) (blt : s.heap.Ns builtinsNs mb) (bls : ∀ y : Str, y ≠ "__name__" → mb y = bootBuiltins y) (lims : s.heap.NoLimit) (gen : s.gens = #[])
    (tabs : ∀ p ∈ cs, s.heap.get? p.2 = some { cls := .none, data := .fields #[] }) (tabK : ∀ p ∈ cs, K.lookup p.2 = none) (codes : ∀ p ∈ cs, PySem.W.CodeHd s.heap p.1 p.2)
    (bmod : ∃ (bm : Addr) (ob : Obj), mg "__builtins__" = some (.ref bm) ∧ bm ≠ builtinsNs ∧ s.heap.get? bm = some ob ∧ ob.cls = .type "module" ∧ ob.dict = some builtinsNs ∧ ob.data = .plain)
    (scr : s.heap.get? a = some { cls := .type "list", data := .seq vs.toArray }) (hInts : IntsAre vs ns) (few : ns.length ≤ sizeLine) (room : Room k callerA)
    (F : ∀ base : Heap, K.In base → base.Ns mainGlobals mg → (∀ p ∈ cs, TabB base mg p.1 p.2) → FnG P w K mg base CX k fa fd [x] sp)
    (bind : ∀ (s : Shared) (u : Value), BindsTo s fd ⟨[u], []⟩ [(x, u)])
    (says : ∀ H : Hp, (∀ p ∈ cs, H p.2 = some (.tbl #[])) → SqL K H a (ns.map V.int) → sp [.ref a] H (fun v _ => v = .bl true) fun _ _ _ => False)
    (none' : ∀ H e s', CX [] H s (fun _ _ _ => False) e s' → False) :
    codeAny (model P w) callerA (.call (.ref fa) ⟨[.ref a], []⟩) (fun r s' => r = .ok (.ret (.bool true)) ∧ OldK s.heap s'.heap ∧ s'.os = s.os ∧ AllBare s'.gens) s := by
  have rv := vals_ints hInts
  have lv := hInts.length
  generalize hts : cs.map (·.2) = ts
  have mem : ∀ p ∈ cs, p.2 ∈ ts := fun p hp => by rw [← hts]; exact List.mem_map.mpr ⟨p, hp, rfl⟩
  have isT : ∀ b ∈ ts, s.heap.get? b = some { cls := .none, data := .fields #[] } ∧ K.lookup b = none := fun b hb => by
    rw [← hts] at hb
    obtain ⟨p, hp, rfl⟩ := List.mem_map.mp hb
    exact ⟨tabs p hp, tabK p hp⟩
  have aT : a ∉ ts := fun z => by
    have q := (isT a z).1
    rw [scr] at q
    exact nomatch congrArg Obj.data (Option.some.inj q)
  generalize hH : H0 K a { cls := .type "list", data := .seq vs.toArray } (ns.map V.int) ts = H
  have atT : ∀ b ∈ ts, H b = some (.tbl #[]) := fun b hb => by rw [← hH]; exact if_pos hb
  have cases_ : ∀ b, H b = none ∨ b ∈ ts ∨ (b = a ∧ K.lookup a = none ∧ H b = some (.frz { cls := .type "list", data := .seq vs.toArray } (.lst (ns.map V.int)))) := fun b => by
    by_cases h1 : b ∈ ts
    · exact .inr (.inl h1)
    · by_cases h2 : b = a ∧ (K.lookup a).isNone = true
      · refine .inr (.inr ⟨h2.1, by simpa using h2.2, ?_⟩)
        rw [← hH]; unfold H0; rw [if_neg h1, if_pos h2]
      · left; rw [← hH]; unfold H0; rw [if_neg h1, if_neg h2]
  have hok : HOk P w H s.heap := fun b o e => by
    rcases cases_ b with q | q | ⟨rfl, _, q⟩
    · rw [q] at e; cases e
    · rw [atT b q] at e; cases e; exact (isT b q).1
    · rw [q] at e; cases e
      exact ⟨scr, by rw [List.length_map]; exact few, vs, _, rv, scr⟩
  have sq : SqL K H a (ns.map V.int) := by
    cases hk : K.lookup a with
    | none => exact .inl (.inr ⟨_, by rw [← hH]; unfold H0; rw [if_neg aT, if_pos ⟨rfl, by rw [hk]; rfl⟩]⟩)
    | some o =>
      have z := kin a o hk
      rw [scr] at z
      cases z
      exact .inr ⟨_, vs.toArray, _, hk, rfl, rfl, rfl, by rw [List.size_toArray, lv]; exact few, by simpa using rv⟩
  -- what isn't tracked lies in the ground
  have gr : ∀ {b : Addr} {o : Obj}, s.heap.get? b = some o → H b = none → (hidT s.heap H).get? b = some o := fun e n => hidT_get e n
  have free : ∀ {b : Addr} {o : Obj}, s.heap.get? b = some o → (∀ us n, o.data ≠ .seq us n) → o.data ≠ .fields #[] → H b = none := fun {b o} e h1 h2 => by
    rcases cases_ b with q | q | ⟨rfl, _, _⟩
    · exact q
    · rw [(isT b q).1] at e; cases e; exact (h2 rfl).elim
    · rw [scr] at e; cases e; exact (h1 _ _ rfl).elim
  have ns' : ∀ {b : Addr} {m : Str → Option Value}, s.heap.Ns b m → (hidT s.heap H).Ns b m := fun {b m} h => by
    obtain ⟨o, es, ep, e, d, r⟩ := h
    exact ⟨o, es, ep, gr e (free e (fun _ _ z => by rw [d] at z; cases z) fun z => by rw [d] at z; cases z), d, r⟩
  have kin' : K.In (hidT s.heap H) := fun b o e => gr (kin b o e) (by
    rcases cases_ b with q | q | ⟨rfl, q, _⟩
    · exact q
    · rw [(isT b q).2] at e; cases e
    · rw [q] at e; cases e)
  have lim' : (hidT s.heap H).NoLimit := by
    obtain ⟨mc, h1, h2⟩ := lims
    exact ⟨mc, ns' h1, h2⟩
  have tb : ∀ p ∈ cs, TabB (hidT s.heap H) mg p.1 p.2 := fun p hp => by
    refine ⟨?_, ?_, fun z => ?_⟩
    · obtain ⟨o, us, file, tf, flags, tg, inF, text, tt, e1, r1, r2, r3, r⟩ := codes p hp
      refine ⟨o, us, file, tf, flags, tg, inF, text, tt, gr e1 (free e1 (fun _ _ z => by rw [r2] at z; cases z) fun z => ?_), r1, r2, r3, r⟩
      rw [r2] at z
      cases z
      simp at r3
    · obtain ⟨bm, ob, b1, b2, b3, b4, b5, b6⟩ := bmod
      refine ⟨bm, ob, b1, b2, fun z => ?_, fun z => ?_, gr b3 (free b3 (fun _ _ z => by rw [b6] at z; cases z) fun z => by rw [b6] at z; cases z), b4, b5, b6⟩
      · obtain ⟨o, es, ep, e, hd, _⟩ := glo
        rw [z, e] at b3; cases b3; rw [hd] at b6; cases b6
      · rw [z, tabs p hp] at b3; cases b3; cases b6
    · obtain ⟨o, es, ep, e, hd, _⟩ := glo
      rw [z, tabs p hp] at e; cases e; cases hd
  have e0 : Env0 P w K mg (hidT s.heap H) callerA [] s H :=
    ⟨rfl, ⟨kin', ns' glo, ⟨mb, ns' blt, bls⟩, lim'⟩, fun b o e => of_hidT e, Nat.le_of_eq (hidT_size _ _), trivial, fun b hb => absurd (show b ∈ ([] : List Addr) from hb) (by simp), hok, .of_eq gen⟩
  refine codeAny_mono ((F _ kin' (ns' glo) tb).run callerA [] s H ⟨[.ref a], []⟩ [.ref a] [.ref a] _ _ room rfl e0 (bind s (.ref a)) (.cons rfl .nil) (says H (fun p hp => atT _ (mem p hp)) sq)) fun r s' h => ?_
  match r, h with
  | .error e, h => exact (none' H e s' h).elim
  | .ok (.ret u), h =>
    obtain ⟨v, H', os, bare, un, hok', r', q⟩ := h
    have q' : v = .bl true := q
    subst q'
    obtain rfl : u = Value.bool true := r'
    have nofr : ∀ b : Addr, b ∉ frs [] := fun b z => absurd (show b ∈ ([] : List Addr) from z) (by simp)
    have kept : ∀ b o, b ∉ ts → s.heap.get? b = some o → s'.heap.get? b = some o := fun b o nb e => by
      rcases cases_ b with q | q | ⟨_, _, q⟩
      · exact un.keep b o e q (nofr b) (by simp)
      · exact absurd q nb
      · have e1 := (hok b _ q).1
        have e2 := (hok' b _ (un.frzs b _ _ q)).1
        rw [e] at e1; cases e1; exact e2
    have tgrow : ∀ p ∈ cs, ∃ more : Array Value, s'.heap.get? p.2 = some { cls := .none, data := .fields more } := fun p hp => by
      obtain ⟨more, z⟩ := un.tbls p.2 #[] (atT _ (mem p hp))
      exact ⟨_, hok' p.2 _ z⟩
    have back : ∀ b ∈ ts, ∃ p ∈ cs, p.2 = b := fun b hb => by
      rw [← hts] at hb
      obtain ⟨p, hp, e⟩ := List.mem_map.mp hb
      exact ⟨p, hp, e⟩
    refine ⟨rfl, ⟨fun b o e => ?_, fun b o e => ?_⟩, os, bare⟩
    · by_cases hb : b ∈ ts
      · obtain ⟨p, hp, rfl⟩ := back b hb
        obtain ⟨more, hm⟩ := tgrow p hp
        rw [tabs p hp] at e
        cases e
        refine .inr (.inl ⟨((codes p hp).tab (tabs p hp)).isCodeTable, rfl, #[], more, rfl, ?_⟩)
        rw [Array.empty_append]
        exact hm
      · exact .inl (kept b o hb e)
    · by_cases hb : b ∈ ts
      · obtain ⟨p, hp, rfl⟩ := back b hb
        obtain ⟨more, hm⟩ := tgrow p hp
        exact ⟨_, hm⟩
      · exact ⟨o, kept b o hb e⟩
/-- what a law's own text must bring -/
structure LawG (l : PySem.W.OpenLaw) (w : World) (K : PySem.W.Frag) (CX : CXT) (k n : Nat) (x : Str) (mg : Str → Option Value) (fa : Addr) (h : Heap) : Prop where
  ex : ∃ (fd : FuncData) (cs : List (Addr × Addr)) (sp : Sp), (∀ p ∈ cs, h.get? p.2 = some { cls := .none, data := .fields #[] }) ∧ (∀ p ∈ cs, K.lookup p.2 = none) ∧ (∀ p ∈ cs, PySem.W.CodeHd h p.1 p.2) ∧
    (∀ (s : Shared) (u : Value), BindsTo s fd ⟨[u], []⟩ [(x, u)]) ∧
    (∀ (H : Hp) (a : Addr) (ns : List Int), ns.length ≤ n → (∀ p ∈ cs, H p.2 = some (.tbl #[])) → SqL K H a (ns.map V.int) → sp [.ref a] H (fun v _ => v = .bl true) fun _ _ _ => False) ∧
    ∀ base : Heap, K.In base → base.Ns mainGlobals mg → (∀ p ∈ cs, TabB base mg p.1 p.2) → FnG l.prog w K mg base CX k fa fd [x] sp
theorem walkG {l : PySem.W.OpenLaw} {n k : Nat} {q : Program} {loose : List Str} {XP : (Str → Option Value) → Heap → Prop} {YP : World → Heap → Prop} {d : DefRec} {K : Params → PySem.W.Frag} {CX : World → CXT} {x : Str}
    (hn : l.most = some n) (hn2 : n ≤ sizeLine) (hdf : d.params.defaults = []) (hr : Room k callerA) (hY : ∀ (w : World) (h : Heap), YP w h → (K w.params).In h)
    (F : ∀ (w : World) (mg : Str → Option Value) (fa : Addr) (h : Heap), YP w h → (K w.params).In h → h.Ns mainGlobals mg → mg d.name = some (.ref fa) → LawG l w (K w.params) (CX w) k n x mg fa h)
    (hCX : ∀ (w : World) (H : Hp) (s : Shared) (e : Value) (s' : Shared), CX w [] H s (fun _ _ _ => False) e s' → False) :
    PySem.W.WalkO q loose XP YP l.row.toRowW d [] (fun f vs => PySem.call f vs) := by
  refine Att.attach_callB hn hdf fun w s₀ s₁ mg mb fa o pm cd doc a vs ns G Y ho hd hcd hmg hobj hints hlen _ hg => ?_
  have kx := hY w _ Y
  obtain ⟨fd, cs, sp, t1, t2, t3, hb, hs, hF⟩ := (F w mg fa _ Y kx G.T.g hmg).ex
  exact lawG kx G.T.g G.T.b G.T.builtins G.T.nolimit hg t1 t2 t3 G.T.bmain hobj hints (Nat.le_trans hlen hn2) hr hF hb (fun H hH hS => hs H a ns hlen hH hS) fun H e s' => hCX w H s₁ e s'
end L3
end
section
namespace L3
open PySem PySem.Spec PyProof.Rows L2
section
variable {X : Cx}
/-! ## repr of data -/
mutual
theorem dp_noDict {K : PySem.W.Frag} {H : Hp} : ∀ (d : PyData) (v : V), Dp K H v d → d.hasDict = false
  | .none, _, _ => rfl
  | .bool _, _, _ => rfl
  | .int _, _, _ => rfl
  | .str _, _, _ => rfl
  | .list ds, _, h => by
    cases h with
    | lst _ a => exact dp_noDictAll ds _ a
  | .tuple ds, _, h => by
    cases h with
    | tup _ a => exact dp_noDictAll ds _ a
  | .dict _, _, h => nomatch h
theorem dp_noDictAll {K : PySem.W.Frag} {H : Hp} : ∀ (ds : List PyData) (vs : List V), DpAll K H vs ds → PyData.hasDictAll ds = false
  | [], _, _ => rfl
  | d :: ds, _, h => by
    cases h with
    | cons a b =>
      unfold PyData.hasDictAll
      rw [dp_noDict d _ a, dp_noDictAll ds _ b]
      rfl
end
def rRepr (K : PySem.W.Frag) : List V → Hp → VK → Prop := fun xs H Q => ∃ x d, xs = [x] ∧ Dp K H x d ∧ d.showable = true ∧ d.depth ≤ 60 ∧ d.shown.length ≤ sizeLine ∧ Q (.str d.shown) H
theorem call_reprD (hg : X.A.guards = some []) (hu : X.A.units + 64 < cLine) : CallR X (.builtin "repr") (rRepr X.K) := by
  intro pins s σ H xs us Q I r h
  obtain ⟨x, d, rfl, hd, hs, hdp, hz, q⟩ := h
  obtain ⟨u, rfl, rx⟩ := vals1 r
  have nd := dp_noDict d x hd
  obtain ⟨as, rd⟩ := Dp.reads I d x u hd rx
  have fin : ∀ tk t, EP X pins σ Q (.str d.shown t) { s with toks := tk } := fun tk t => ⟨.str d.shown, H, I.tok tk, ⟨t, rfl⟩, q⟩
  cases hd with
  | non =>
    cases (show u = Value.none from rx)
    exact P.repr_of_none (fin _ _)
  | bl b =>
    cases (show u = Value.bool b from rx)
    refine P.repr_of_bool ?_
    cases b
    · exact fin _ _
    · exact fin _ _
  | int i =>
    obtain ⟨t, e⟩ := (show ∃ t, u = Value.int i t from rx)
    subst e
    exact P.repr_of_int (of_decide_eq_true hs) (fin _ _)
  | str z =>
    obtain ⟨t, e⟩ := (show ∃ t, u = Value.str z t from rx)
    subst e
    exact P.repr_of_str (fin _ _) hz
  | lst a b =>
    cases (show u = Value.ref _ from rx)
    refine repr_of_reads' rd hs (PyData.noDict_hsm nd) hg (by omega) (fun _ _ e => e) (fun h' t tk k => ?_) hz
    exact ⟨.str _, H, I.kept k, ⟨t, rfl⟩, q⟩
  | tup a b =>
    cases (show u = Value.ref _ from rx)
    refine repr_of_reads' rd hs (PyData.noDict_hsm nd) hg (by omega) (fun _ _ e => e) (fun h' t tk k => ?_) hz
    exact ⟨.str _, H, I.kept k, ⟨t, rfl⟩, q⟩
/-! ## a text many times -/
def repS (z : Str) (n : Nat) : Str := ⟨(List.replicate n z.cps).foldl (· ++ ·) #[]⟩
def rMulS : R2 := fun x y H Q => ∃ z n, x = .str z ∧ y = .int n ∧ 2 ≤ n ∧ n ≤ 100000 ∧ z.length = 1 ∧ Q (.str (repS z n.toNat)) H
theorem repS_len (z : Str) (n : Nat) : (repS z n).length = n * z.length := by
  have h : ∀ (l : List (Array Nat)) (a : Array Nat), (l.foldl (· ++ ·) a).size = a.size + (l.map (·.size)).sum := by
    intro l
    induction l with
    | nil => intro a; simp
    | cons b r ih => intro a; rw [List.foldl_cons, ih, Array.size_append, List.map_cons, List.sum_cons]; omega
  show ((List.replicate n z.cps).foldl (· ++ ·) #[]).size = _
  rw [h, List.map_replicate, List.sum_replicate_nat]
  simp [Str.length]
theorem op_mulS : OpR X (binaryOp .Mult) rMulS := by
  intro pins s σ H x y v u Q I rx ry h
  obtain ⟨z, n, rfl, rfl, h1, h2, h3, q⟩ := h
  obtain ⟨t, rfl⟩ := rx
  obtain ⟨t', rfl⟩ := ry
  have c1 : ¬ n < 1 := by omega
  have c2 : (n == 1 || z.length == 0) = false := by
    rw [h3, show (n == 1) = false from beq_eq_false_iff_ne.mpr (by omega)]
    rfl
  refine P.mul_str (by rw [decide_eq_false (by omega), decide_eq_false (by omega)]; rfl) (fun _ _ => ?_) (fun _ _ => ?_) ?_
  · rw [h3]
    have : (1 : Int) ≤ (2 ^ 63 - 1) / n := Int.le_ediv_of_mul_le (by omega) (by omega)
    omega
  · unfold PySem.Builtin.Str.tooLong
    rw [h3]
    exact decide_eq_false (by rw [sizeLine_eq]; omega)
  · rw [if_neg c1, c2, if_neg (by decide)]
    refine ⟨?_, ⟨.str (repS z n.toNat), H, I.tok _, ⟨_, rfl⟩, q⟩⟩
    show (repS z n.toNat).length ≤ sizeLine
    rw [repS_len, h3, sizeLine_eq]
    omega
/-! ## list(text) -/
theorem vals_of_get : ∀ {xs : List V} {us : List Value}, xs.length = us.length → (∀ (i : Nat) x u, xs[i]? = some x → us[i]? = some u → RelV x u) → Vals xs us
  | [], [], _, _ => .nil
  | x :: xs, u :: us, hl, h => .cons (h 0 x u rfl rfl) (vals_of_get (by simpa using hl) fun i y v a b => h (i + 1) y v (by simpa using a) (by simpa using b))
  | [], _ :: _, hl, _ => by simp at hl
  | _ :: _, [], hl, _ => by simp at hl
def chars (z : Str) : List V := z.cps.toList.map fun c => V.str ⟨#[c]⟩
def rListS : List V → Hp → VK → Prop := fun xs H Q => ∃ z, xs = [.str z] ∧ z.length ≤ sizeLine ∧ ∀ l, H l = none → ap Q (.ref l) (upd H l (.lst (chars z)))
theorem call_listS (hc : X.calm = true) : CallR X (.type "list") rListS := by
  intro pins s σ H xs us Q I r h
  obtain ⟨z, rfl, hz, q⟩ := h
  obtain ⟨u, rfl, rx⟩ := vals1 r
  obtain ⟨t, rfl⟩ := rx
  refine call_list_str (I.ok.hd hc) z t (fun h' tk acc c k e it => ?_) hz
  have rl : Vals (chars z) acc.toList := by
    refine vals_of_get ?_ fun i x u hx hu => ?_
    · unfold chars
      rw [List.length_map, Array.length_toList, Array.length_toList, it.1]
    · obtain ⟨c, t, e1, rfl⟩ := it.2 i u (by simpa using hu)
      have e2 : z.cps.toList[i]? = some c := by simpa using e1
      unfold chars at hx
      rw [List.getElem?_map, e2] at hx
      cases hx
      exact ⟨t, rfl⟩
  refine ⟨.ref s.heap.objs.size, _, I.laid (t' := tk) k (Nat.le_refl _) (o := .lst (chars z)) ⟨by unfold chars; rw [List.length_map]; exact hz, acc.toList, c, rl, by simpa using e⟩, rfl, q _ (I.hok.fresh (Nat.le_refl _))⟩
end
end L3
namespace L3
open PySem PySem.Calls PySem.NumText PyProof.Rows PySem.W PySem.W.KIN
/-! ## int of a text of more than 640 signs: the limit of figures is asked for -/
def DigitsFree (h : Heap) : Prop := ∃ mc, h.Ns cStatics mc ∧ mc "sys.int_max_str_digits" = none
theorem wp_digits {M : Model} {A : Around} {E : Value → Shared → Prop} {s : Shared} {Q : Nat → Shared → Prop} (hm : DigitsFree s.heap) (h : Q 4300 s) : wpAny M A PySem.Builtin.intMaxStrDigits Q E s := by
  obtain ⟨mc, h1, h2⟩ := hm
  unfold PySem.Builtin.intMaxStrDigits
  refine wpAny_bind (wpAny_nsGet h1 ?_)
  rw [h2]
  exact wpAny_pure h
theorem wp_textL {M : Model} {A : Around} {E : Value → Shared → Prop} {s : Shared} {Q : Value → Shared → Prop} {v : Value} {text : List Nat} {n : Int} (hm : DigitsFree s.heap)
    (hs : ¬ (text.takeWhile (· != 0)).length ≤ 640) (hr : (int_private% "readNumeral") 4300 10 (text.takeWhile (· != 0)) = (int_private% "Numeral.value") n)
    (ha : ((text.takeWhile (· != 0)).length == text.length) = true) (h : Q (.int n s.toks) { s with toks := s.toks + 1 }) :
    wpAny M A ((int_private% "intFromText") v text 10) Q E s := by
  obtain ⟨hp, g, d, tk, os⟩ := s
  repeat (any_goals (first
    | assumption
    | (with_reducible refine wpAny_ite_false (decide_eq_false hs) ?_)
    | (with_reducible refine wpAny_ite_true (decide_eq_true ha) ?_)
    | (with_reducible refine wp_digits hm ?_)
    | wp_step))
  all_goals (try rw [hr])
  all_goals (try dsimp only)
  repeat (any_goals (first
    | assumption
    | (with_reducible refine wpAny_ite_true (decide_eq_true ha) ?_)
    | wp_step))
structure HidL (p : Prop) : Prop where
  out : p
theorem meets_textL {x : PySem.Str} {u : Tok} {n : Int} (hl : ¬ (numSeenOf x).length ≤ 640) (hr : (int_private% "readNumeral") 4300 10 (numSeenOf x) = (int_private% "Numeral.value") n)
    (ha : ((numSeenOf x).length == (numTextOf x).length) = true) : Meets (Builtin.«int.__new__» ⟨[.type "int", .str x u], []⟩) (fun _ R s => DigitsFree s.heap ∧ R (.ok (.ret (.int n s.toks))) { s with toks := s.toks + 1 }) := by
  intro prog w A R s h
  obtain ⟨hm, h⟩ := h
  obtain ⟨hp, g, d, tk, os⟩ := s
  have g1 := F.conv_sub_int
  have g2 := F.madeHere_int
  have g3 := str_int
  have g4 := str_idx
  have g5 := str_trunc
  have g6 : typeOf (.str x u) = pure (.type "str") := rfl
  have hk := HidL.mk (And.intro hl (And.intro hr ha))
  clear hl hr ha
  repeat (any_goals (first
    | assumption
    | ((with_reducible show wpAny _ _ ((int_private% "intFromText") _ _ _) _ _ _); refine wp_textL hm hk.out.1 hk.out.2.1 hk.out.2.2 ?_)
    | wp_step))
theorem call_textL {prog : Program} {w : World} {A : Around} {E : Value → Shared → Prop} {s : Shared} {Q : Value → Shared → Prop} {x : PySem.Str} {u : Tok} {n : Int} (hm : DigitsFree s.heap) (hl : ¬ (numSeenOf x).length ≤ 640) (hr : (int_private% "readNumeral") 4300 10 (numSeenOf x) = (int_private% "Numeral.value") n)
    (ha : ((numSeenOf x).length == (numTextOf x).length) = true) (h : Q (.int n s.toks) { s with toks := s.toks + 1 }) :
    wpAny (model prog w) A (call (.type "int") [.str x u]) Q E s := call_int_1 (meets_textL hl hr ha) ⟨hm, rfl, h⟩
end L3
namespace L3
open PySem PySem.Spec PyProof.Rows L2
/-! ## functions as values: what isinstance tells of them -/
namespace FnK
theorem slot : Slot "function" "__getattribute__" "object.__getattribute__" := .of (owner := "object") (n := "__getattribute__")
  (by rw [typeLookup_type, builtinLookup_eq_fast]; kernel_rfl) (by decide +kernel) (by decide +kernel) (by decide +kernel) (by first | exact .inl (by decide +kernel) | exact .inr (by decide +kernel)) (by rw [isSubtype_type]; kernel_rfl)
theorem look : typeLookup (.type "function") "__class__" = pure (some (.builtin "object.__class__")) := by
  rw [typeLookup_type, builtinLookup_eq_fast]; kernel_rfl
theorem below : isSubtype (.type "function") (.type (".".intercalate ("object.__class__".cutAt '.').dropLast)) = pure true := by
  rw [F.owner_object_class, isSubtype_type]; kernel_rfl
section
variable {prog : Program} {w : World} {A : Around} {E : Value → Shared → Prop} {hp : Heap} {gs : Array GenState} {dr : Drawn} {tk : Nat} {os : OsState} {f : Addr} {ob : Obj}
theorem got {R : Result → Shared → Prop} (e : hp.get? f = some ob) (c : ob.cls = .type "function") (k : R (.ok (.ret (.type "function"))) ⟨hp, gs, dr, tk, os⟩) :
    codeAny (model prog w) A (.call (.builtin "getset_descriptor.__get__") ⟨[.builtin "object.__class__", .ref f, .type "function"], []⟩) R ⟨hp, gs, dr, tk, os⟩ := by
  have y1 : (⟨hp, gs, dr, tk, os⟩ : Shared).TypeIs (.ref f) "function" := ⟨_, e, c⟩
  have y2 : (⟨hp, gs, dr, tk, os⟩ : Shared).TypeIs (.builtin "object.__class__") "getset_descriptor" := F.typeOf_object_class
  have y3 := below
  refine codeAny_call_builtin F.slot_gs_get.plain F.entry_gs_get (F.slot_gs_get.check _ _ _ _ _ _ _ _ y2 (F.args_gs_get _ _ _) ?_)
  repeat (any_goals (first | assumption | wp_step))
  refine ⟨Code.quiet_builtin _ (by decide +kernel), codeAny_builtin F.entry_object_class ?_⟩
  repeat (any_goals (first | assumption | wp_step))
theorem entry {t : Tok} {Q : Fin → Shared → Prop} (e : hp.get? f = some ob) (c : ob.cls = .type "function") (k : Q (.done (.ret (.type "function"))) ⟨hp, gs, dr, tk, os⟩) :
    wpAny (model prog w) A (Builtin.«object.__getattribute__» ⟨[.ref f, .str "__class__" t], []⟩) Q E ⟨hp, gs, dr, tk, os⟩ := by
  have y1 : (⟨hp, gs, dr, tk, os⟩ : Shared).TypeIs (.ref f) "function" := ⟨_, e, c⟩
  have y2 : (⟨hp, gs, dr, tk, os⟩ : Shared).TypeIs (.builtin "object.__class__") "getset_descriptor" := F.typeOf_object_class
  have y3 := look
  have y4 := F.typeOf_object_class
  have y5 := F.slot_gs_get.lookup
  have y6 := F.slot_gs_set.lookup
  repeat (any_goals (first | assumption | wp_step))
  refine got e c ?_
  repeat (any_goals (first | assumption | wp_step))
theorem by_ {t : Tok} {Q : Value → Shared → Prop} (e : hp.get? f = some ob) (c : ob.cls = .type "function") (k : Q (.type "function") ⟨hp, gs, dr, tk, os⟩) :
    wpAny (model prog w) A (getAttrBy (.ref f) (.str "__class__" t) false) Q E ⟨hp, gs, dr, tk, os⟩ := by
  have y1 : (⟨hp, gs, dr, tk, os⟩ : Shared).TypeIs (.ref f) "function" := ⟨_, e, c⟩
  have y2 := slot.lookup
  have y3 := slot.bind (.ref f)
  repeat (any_goals (first | assumption | wp_step))
  refine codeAny_call_builtin slot.plain F.entry_object_getattribute (slot.check _ _ _ _ _ _ _ _ y1 (F.args_object_getattribute_2 _ _) (entry e c ?_))
  repeat (any_goals (first | assumption | wp_step))
theorem attr {Q : Option Value → Shared → Prop} (e : hp.get? f = some ob) (c : ob.cls = .type "function") (k : Q (some (.type "function")) ⟨hp, gs, dr, tk + 1, os⟩) :
    wpAny (model prog w) A (getAttr? (.ref f) "__class__") Q E ⟨hp, gs, dr, tk, os⟩ := by
  unfold getAttr? getAttrBy?
  repeat (any_goals (first | assumption | with_reducible apply by_ e c | wp_step))
end
theorem kit {K : PySem.W.Frag} {f : Addr} : PySem.W.KitX K (.ref f) (.type "function") (PySem.W.KitAt f "function") :=
  PySem.W.kitx_of PySem.W.kitAt_ty (fun {_ _ _ _ _ s} p k => by
    obtain ⟨hp, gs, dr, tk, os⟩ := s
    obtain ⟨o, h1, h2⟩ := p
    exact attr h1 h2 k)
end FnK
/-- a function object -/
def FnV (f : Addr) : HO := .ext fun h => ∃ o, h.get? f = some o ∧ o.cls = .type "function"
/-- a value's type -/
inductive TyA (K : PySem.W.Frag) (H : Hp) : V → Value → Prop where
  | x {v : V} {t : Value} (h : TyX K H v t) : TyA K H v t
  | fn {f : Addr} (e : H f = some (FnV f)) : TyA K H (.ref f) (.type "function")
def rIsiA (K : PySem.W.Frag) : List V → Hp → VK → Prop := fun xs H Q => ∃ (x c : V) (t u : Value) (b : Bool), xs = [x, c] ∧ ClsV c u ∧ TyA K H x t ∧ PySem.W.kitOne K t u = some b ∧ Q (.bl b) H
theorem callIsi {X : Cx} : CallR X (.builtin "isinstance") (rIsiA X.K) := by
  intro pins s σ H xs us Q I r h
  obtain ⟨x, c, t, u, b, rfl, k, ty, e, q⟩ := h
  cases ty with
  | x ty => exact call_isi pins s σ H _ us Q I r ⟨x, c, t, u, b, rfl, k, ty, e, q⟩
  | @fn f ef =>
    obtain ⟨u1, u2, rfl, r1, r2⟩ := vals2 r
    have e2 := k.eq r2
    subst e2
    cases (show u1 = Value.ref f from r1)
    obtain ⟨⟨o, h1, h2⟩, _, _⟩ := (show ObjOk X.prog X.w H s.heap f (FnV f) from I.hok f _ ef)
    exact PySem.W.kia_one (FnK.kit (K := X.K) (f := f)) I.kIn ⟨o, h1, h2⟩ e (fun z => nomatch z) fun tk => ⟨.bl b, H, I.tok tk, rfl, q⟩
end L3
namespace L3
open PySem PySem.Spec PyProof.Rows L2 LamX
/-! ## a lambda as a value -/
def tLamV (T : List (Addr × Str)) : TE := fun _ H Q => Tabs T H ∧ ∀ f H1, H f = none → ExtN H H1 → Tabs T H1 → H1 f = some (FnV f) → ap Q (.ref f) H1
theorem FnV_ok {P : Program} {w : World} {H : Hp} {h : Heap} {f : Addr} {o : Obj} (e : h.get? f = some o) (c : o.cls = .type "function") : ObjOk P w H h f (FnV f) :=
  ⟨⟨o, e, c⟩, ⟨o, e⟩, fun _ _ ⟨o, a, b⟩ k => ⟨o, k _ a, b⟩⟩
theorem Tabs.up {T : List (Addr × Str)} {H : Hp} {p : Addr} {o : HO} (t : Tabs T H) (h : H p = none) : Tabs T (upd H p o) := t.ext (ex_new h)
theorem pe_lamV {X : Cx} {T : List (Addr × Str)} {c P : Addr} {params : Arguments} {body : Expr} {scope : Scope} {pos : Pos} (TB : TabB X.base X.mg c P) (hcode : X.env.code = .ref c) (hm : (P, X.env.qual ++ "<lambda>") ∈ T)
    (hu : ∀ p ∈ T, p.1 = P → p.2 = X.env.qual ++ "<lambda>") (hdef : defaultsOf params X.env = ([], [])) (hfree : ∀ y ∈ scope.names, y.2 ≠ .free) : PE X (.Lambda params body scope pos) (tLamV T) := by
  constructor
  intro pins s σ H Q I h
  obtain ⟨hT, k⟩ := h
  obtain ⟨ps, hP, ht, ha⟩ := hT _ hm
  have hfr : ∀ y ∈ scope.names, y.2 = .free → ∃ c, X.env.cells.lookup y.1 = some c := fun y hy e => absurd e (hfree y hy)
  refine PySem.W.kla_eval hdef ?_
  have bP : s.heap.BuiltinsAt X.mg P := TB.bm.keeps I.bk
  have hP' : s.heap.get? P = some { cls := .none, data := .fields ps } := I.hok P _ hP
  cases hc : codeAmong pos ps.toList with
  | none =>
    refine PySem.W.kla_makeFunction (mg := X.mg) (c := c) (P := P) (ps := ps) (closure_ok hfr) I.ok.glob (I.mod.glob.keeps I.bk) hcode (TB.code.keeps I.bk) hP' ht hc TB.gP bP fun c' ctv h' tk hx hge hlt hrec htb => ?_
    obtain ⟨c2, oc, vs, t, e2, hoc, hd, hv⟩ := hrec
    cases e2
    have hsz : s.heap.objs.size ≤ h'.objs.size := Nat.le_trans hge (Nat.le_of_lt hlt)
    have nC : H c' = none := I.hok.fresh hge
    have I1 : Inv X pins σ _ { s with heap := h', toks := tk } := inv_table (t' := tk) (more := #[rawInt pos.line, rawInt pos.col, .ref c']) I hP hx htb hge ⟨oc, vs, t, hoc, hd, hv⟩
    generalize hH1 : upd (upd H P (.tbl (ps ++ #[rawInt pos.line, rawInt pos.col, .ref c']))) c' (CodeO c' (X.env.qual ++ "<lambda>")) = H1 at I1
    have nPc : P ≠ c' := ne_of_none hP nC
    have eN : ExtN H H1 := fun b o e n => by
      rw [← hH1, upd_ne (ne_of_none e nC), upd_ne (fun z => n ps (Option.some.inj (e.symm.trans (by rw [z]; exact hP))))]
      exact e
    have T1 : Tabs T H1 := fun p hp => by
      by_cases hb : p.1 = P
      · rw [hu p hp hb, hb]
        refine ⟨ps ++ #[rawInt pos.line, rawInt pos.col, .ref c'], by rw [← hH1, upd_ne nPc, upd_same], by simp only [Array.toList_append]; exact PySem.TriplesOk_snoc _ _ _ _ ht, fun p' v hv => ?_⟩
        simp only [Array.toList_append] at hv
        rcases among_app _ ht hv with z | z
        · obtain ⟨c0, e1, e2⟩ := ha p' v z
          exact ⟨c0, e1, eN _ _ e2 codeO_ne⟩
        · exact ⟨c', z, by rw [← hH1]; exact upd_same⟩
      · obtain ⟨qs, a1, a2, a3⟩ := hT p hp
        refine ⟨qs, by rw [← hH1, upd_ne (ne_of_none a1 nC), upd_ne hb]; exact a1, a2, fun p' v hv => ?_⟩
        obtain ⟨c0, e1, e2⟩ := a3 p' v hv
        exact ⟨c0, e1, eN _ _ e2 codeO_ne⟩
    have nf : H1 h'.objs.size = none := I1.hok.fresh (Nat.le_refl _)
    have I2 := I1.laid (t' := tk) (h' := h'.push (PySem.W.kla_obj "<lambda>" (X.env.qual ++ "<lambda>") params body scope (cloFrom X.env.cells scope.names []) ((X.mg "__name__").getD .none) c' ctv)) (a := h'.objs.size) (o := FnV h'.objs.size)
      (fun b o e => Heap.get?_push_of_some _ e) (Nat.le_refl _) (FnV_ok (Heap.get?_push_size _ rfl) rfl)
    exact ⟨.ref h'.objs.size, _, I2, rfl, k _ _ (I.hok.fresh hsz) (eN.trans (.of (ex_new nf))) (Tabs.up T1 nf) upd_same⟩
  | some cv =>
    obtain ⟨c', e, hco⟩ := ha pos cv hc
    subst e
    refine PySem.W.kla_makeFunctionHit (mg := X.mg) (c := c) (P := P) (ps := ps) (closure_ok hfr) I.ok.glob (I.mod.glob.keeps I.bk) hcode (TB.code.keeps I.bk) hP' ht hc bP fun ctv h' tk hx hsz => ?_
    have I1 : Inv X pins σ H { s with heap := h', toks := tk } := I.kept hx
    have nf : H h'.objs.size = none := I.hok.fresh hsz
    have I2 := I1.laid (t' := tk) (h' := h'.push (PySem.W.kla_obj "<lambda>" (X.env.qual ++ "<lambda>") params body scope (cloFrom X.env.cells scope.names []) ((X.mg "__name__").getD .none) c' ctv)) (a := h'.objs.size) (o := FnV h'.objs.size)
      (fun b o e => Heap.get?_push_of_some _ e) (Nat.le_refl _) (FnV_ok (Heap.get?_push_size _ rfl) rfl)
    exact ⟨.ref h'.objs.size, _, I2, rfl, k _ _ nf (.of (ex_new nf)) (Tabs.up hT nf) upd_same⟩
/-! ## rules for operands of several kinds -/
section
variable {X : Cx}
def rAddU : R2 := fun x y H Q => rI0 (fun i j => V.int (i + j)) x y H Q ∨ (∃ i j, x = .str i ∧ y = .str j ∧ i.length + j.length ≤ sizeLine ∧ Q (.str (i ++ j)) H) ∨ rCat x y H Q
theorem opAdd : OpR X (binaryOp .Add) rAddU := OpR.or op_add (OpR.or op_add_str op_cat)
def rMulU : R2 := fun x y H Q => rI IntMulOk (fun i j => V.int (i * j)) x y H Q ∨ rMulS x y H Q ∨ rRep x y H Q
theorem opMul : OpR X (binaryOp .Mult) rMulU := OpR.or (opI fun _ _ _ _ _ _ _ hc q => mul_int q hc) (OpR.or op_mulS op_rep)
theorem opEq (hu : X.A.units + 64 < cLine) : OpR X (compareOp .Eq) (rEqU X.K) := OpR.or op_eq (op_eqD hu)
theorem opNe (hu : X.A.units + 64 < cLine) : OpR X (compareOp .NotEq) (rNeU X.K) := OpR.or op_ne (op_neD hu)
def rIsU : R2 := fun x y H Q => (y = .non ∧ Q (.bl (decide (x = .non))) H) ∨ rIsB x y H Q
theorem opIs : OpR X (compareOp .Is) rIsU := OpR.or op_isN op_isBl
def rIsNotU : R2 := fun x y H Q => (y = .non ∧ Q (.bl (!decide (x = .non))) H) ∨ rNotB x y H Q
theorem opIsNot : OpR X (compareOp .IsNot) rIsNotU := OpR.or op_notN op_notBl
def rInU (K : PySem.W.Frag) : R2 := fun x y H Q => rInS x y H Q ∨ rIn K false x y H Q
theorem opIn : OpR X (compareOp .In) (rInU X.K) := OpR.or op_inS op_in_seq
def rNotInU (K : PySem.W.Frag) : R2 := fun x y H Q => rNotInS x y H Q ∨ rIn K true x y H Q
theorem opNotIn : OpR X (compareOp .NotIn) (rNotInU X.K) := OpR.or op_notInS op_notIn_seq
theorem IxR.or {r r' : R2} (h : IxR X r) (h' : IxR X r') : IxR X (fun x y H Q => r x y H Q ∨ r' x y H Q) := by
  intro value slice pins s σ H x y v u Q I rx ry q hs
  rcases q with q | q
  · exact h value slice pins s σ H x y v u Q I rx ry q hs
  · exact h' value slice pins s σ H x y v u Q I rx ry q hs
def rIxU (K : PySem.W.Frag) : R2 := fun x y H Q => rIxL K x y H Q ∨ rIxT K x y H Q ∨ rIxS x y H Q
theorem ixU : IxR X (rIxU X.K) := IxR.or ix_list (IxR.or ix_tup ix_str)
def rSlU (K : PySem.W.Frag) : V → Option Int → Option Int → Hp → VK → Prop := fun x lo hi H Q => rSlL K x lo hi H Q ∨ rSlS x lo hi H Q
theorem slU : SlR X (rSlU X.K) := SlR.or sl_list sl_str
theorem CallR.or {f : Value} {r r' : List V → Hp → VK → Prop} (h : CallR X f r) (h' : CallR X f r') : CallR X f (fun xs H Q => r xs H Q ∨ r' xs H Q) := by
  intro pins s σ H xs us Q I rs q
  rcases q with q | q
  · exact h pins s σ H xs us Q I rs q
  · exact h' pins s σ H xs us Q I rs q
/-- int(x): an int, a bool, a text -/
def rIntT : List V → Hp → VK → Prop := fun xs H Q => ∃ a n, xs = [.str a] ∧ PySem.intText? a = some n ∧ a.length ≤ 640 ∧ Q (.int n) H
def rIntL (K : PySem.W.Frag) : List V → Hp → VK → Prop := fun xs H Q => ∃ a n, xs = [.str a] ∧ PySem.intText? a = some n ∧ PySem.W.nsIn K cStatics "sys.int_max_str_digits" = some none ∧ ¬ (numSeenOf a).length ≤ 640 ∧ a.length ≤ sizeLine ∧ Q (.int n) H
theorem ns_none {K : PySem.W.Frag} {h : Heap} {a : Addr} {m : Str → Option Value} {x : Str} (kin : K.In h) (g : h.Ns a m) (e : PySem.W.nsIn K a x = some none) : m x = none := by
  obtain ⟨o, es, ep, ho, hd, _, hf⟩ := g
  cases hk : K.lookup a with
  | none => unfold PySem.W.nsIn at e; rw [hk] at e; cases e
  | some o' =>
    have z := kin _ _ hk
    rw [ho] at z
    cases z
    obtain ⟨c, d, dt, sl⟩ := o
    cases hd
    unfold PySem.W.nsIn at e
    rw [hk] at e
    cases he : es.toList.find? (·.key.isStr x) with
    | some y =>
      exfalso
      revert e
      show (match es.toList.find? (·.key.isStr x) with | some e => some (some e.val) | none => if es.toList.any (·.refKey) then none else some none) = some none → False
      rw [he]
      intro e; cases e
    | none =>
      rw [← hf]
      unfold nsFind findBy
      rw [← Array.find?_toList, he]
      rfl
theorem digits_free {K : PySem.W.Frag} {h : Heap} (kin : K.In h) (hl : h.NoLimit) (e : PySem.W.nsIn K cStatics "sys.int_max_str_digits" = some none) : DigitsFree h := by
  obtain ⟨mc, hn, _⟩ := hl
  refine ⟨mc, hn, ?_⟩
  exact ns_none kin hn e
def rIntU (K : PySem.W.Frag) : List V → Hp → VK → Prop := fun xs H Q => rInt1 xs H Q ∨ rIntT xs H Q ∨ rIntL K xs H Q
theorem callIntL : CallR X (.type "int") (rIntL X.K) := by
  intro pins s σ H xs us Q I rs h
  obtain ⟨a, n, rfl, hn, hk, hl, hz, q⟩ := h
  obtain ⟨u, rfl, rx⟩ := vals1 rs
  obtain ⟨t, rfl⟩ := rx
  rcases read4300 a hz with ⟨m, e1, e2, e3⟩ | ⟨e1, _⟩
  · rw [hn] at e1
    cases e1
    exact call_textL (digits_free I.kIn I.nolimit hk) hl e3 e2 ⟨.int n, H, I.tok _, ⟨_, rfl⟩, q⟩
  · rw [hn] at e1; cases e1
theorem callInt : CallR X (.type "int") (rIntU X.K) := CallR.or call_int1 (CallR.or call_int_str callIntL)
def rListU (K : PySem.W.Frag) : List V → Hp → VK → Prop := fun xs H Q => (∃ p ys, xs = [.ref p] ∧ (SqL K H p ys ∨ SqT K H p ys) ∧ ∀ l, H l = none → Q (.ref l) (upd H l (.lst ys))) ∨ rListS xs H Q
theorem callList (hc : X.calm = true) : CallR X (.type "list") (rListU X.K) := CallR.or call_list_of (call_listS hc)
end
end L3
end
section
namespace KX
open PySem PySem.Spec PyProof.Rows L2 LamX L3
/-! the rules with the written part named (within a comprehension's block it is the def's) -/
section
variable {X : Cx} {K : PySem.W.Frag} (hK : X.K = K := by rfl)
include hK
theorem opIn : OpR X (compareOp .In) (rInU K) := by subst hK; exact L3.opIn
theorem opNotIn : OpR X (compareOp .NotIn) (rNotInU K) := by subst hK; exact L3.opNotIn
theorem ixU : IxR X (rIxU K) := by subst hK; exact L3.ixU
theorem slU : SlR X (rSlU K) := by subst hK; exact L3.slU
theorem callInt : CallR X (.type "int") (rIntU K) := by subst hK; exact L3.callInt
theorem callIsi : CallR X (.builtin "isinstance") (rIsiA K) := by subst hK; exact L3.callIsi
theorem callLen : CallR X (.builtin "len") (rLen1 K) := by subst hK; exact call_len
theorem callList (hc : X.calm = true) : CallR X (.type "list") (rListU K) := by subst hK; exact L3.callList hc
theorem callAll (hc : X.calm = true) : CallR X (.builtin "all") (rAll K) := by subst hK; exact cr_all hc
theorem callRepr (hg : X.A.guards = some []) (hu : X.A.units + 64 < cLine) : CallR X (.builtin "repr") (rRepr K) := by subst hK; exact call_reprD hg hu
theorem eqU (hu : X.A.units + 64 < cLine) : OpR X (compareOp .Eq) (rEqU K) := by subst hK; exact opEq hu
theorem neU (hu : X.A.units + 64 < cLine) : OpR X (compareOp .NotEq) (rNeU K) := by subst hK; exact opNe hu
theorem fld {e : Expr} {f : Str} {pos : Pos} {ta : TE} (ha : PE X e ta) (hb : attributeBase e f X.env (eval e X.env) = eval e X.env) : PE X (.Attribute e f pos) (tFld K ta f) := by subst hK; exact pe_fld ha hb
end
end KX
namespace L3
open PySem PySem.Spec PyProof.Rows L2 LamX
section
variable {σ : L2.St} {H : Hp} {D : Ends} {Q : VK} {v x y : V} {K : PySem.W.Frag} {te ta tb : TE}
theorem iteNF {A B : Prop} (h : A) : if (!false) = true then A else B := iteT h
theorem iteNT {A B : Prop} (h : B) : if (!true) = true then A else B := iteF h
theorem s_pair {i j : Nat} {tt : TA} (h : tt σ H fun vs H1 => ∃ v w, vs = [v, w] ∧ D.nx ((σ.set i (some v)).set j (some w)) H1) : tPar i j tt D σ H := h
theorem s_pair2 {R : V → V → Prop} (h : R x y) : ∃ v w, [x, y] = [v, w] ∧ R v w := ⟨x, y, rfl, h⟩
theorem s_fld {tv : TE} {f : Str} (h : tv σ H fun y H1 => ta σ H1 fun x H2 => ∃ a C dx fs, x = .ref a ∧ H2 a = some (.ins C dx fs) ∧ Cls K C ∧ NoAttr K C f ∧ fs.length < 1000 ∧ D.nx σ (upd H2 a (.ins C dx (putF f y fs)))) : sFld K ta tv f D σ H := h
theorem s_make {C : Addr} {sp : Sp} {dvs : List V} {E : XK} {tt : TA} (h : tt σ H fun vs H1 => ∀ p dx, H1 p = none → H1 dx = none → dx ≠ p → sp (.ref p :: (vs ++ dvs)) (upd (upd H1 dx (.own p)) p (.ins C dx [])) (fun v H2 => v = .non ∧ ap Q (.ref p) H2) E) : tMake C sp dvs E tt σ H Q := h
theorem s_dnew (h : ∀ p H2, H p = none → Ex H H2 → H2 p = some (.dK []) → Q (.ref p) H2) : tDNewK σ H Q := fun p hp => h p _ hp (ex_new hp) upd_same
theorem s_disp1 {tk tv : TE} {k : Key} {v' : V} (hk : ∀ H' (R : VK), R (kV k) H' → tk σ H' R) (hv : ∀ H' (R : VK), R v' H' → tv σ H' R) (h : ∀ p H2, H p = none → Ex H H2 → H2 p = some (.dK [(k, v')]) → Q (.ref p) H2) : tDisp [(tk, tv)] σ H Q := fun p hp => by
  refine hk _ _ (hv _ _ ?_)
  refine ⟨upd_same, [(k, v')], rfl, (by show 1 ≤ 15; decide), ?_⟩
  refine h p _ hp (fun b o e => ?_) upd_same
  rw [upd_ne (ne_of_none e hp), upd_ne (ne_of_none e hp)]; exact e
theorem s_pow {g : Int → Int → V} {i j : Int} (c : CPow i j) (h : Q (g i j) H) : rI CPow g (.int i) (.int j) H Q := ⟨i, j, rfl, rfl, c, h⟩
theorem s_m1 {r : V → List V → Hp → VK → Prop} (h : ta σ H fun x H1 => (∃ a, x = .str a) ∧ tb σ H1 fun y H2 => r x [y] H2 Q) : tM1 r ta tb σ H Q := h
theorem s_isstr {z : Str} {R : Prop} (h : R) : (∃ a, V.str z = .str a) ∧ R := ⟨⟨z, rfl⟩, h⟩
theorem s_addI {i j : Int} (h : Q (.int (i + j)) H) : rAddU (.int i) (.int j) H Q := .inl ⟨i, j, rfl, rfl, h⟩
theorem s_addS {i j : Str} (z : i.length + j.length ≤ sizeLine) (h : Q (.str (i ++ j)) H) : rAddU (.str i) (.str j) H Q := .inr (.inl ⟨i, j, rfl, rfl, z, h⟩)
theorem s_addL {l b : Addr} {xs zs : List V} (e : H l = some (.lst xs)) (e' : H b = some (.lst zs)) (z : xs.length + zs.length ≤ sizeLine) (h : ∀ p H2, H p = none → Ex H H2 → H2 p = some (.lst (xs ++ zs)) → Q (.ref p) H2) : rAddU (.ref l) (.ref b) H Q :=
  .inr (.inr ⟨l, b, xs, zs, rfl, rfl, e, e', z, fun p hp => h p _ hp (ex_new hp) upd_same⟩)
theorem s_mulI {i j : Int} (c : IntMulOk i j) (h : Q (.int (i * j)) H) : rMulU (.int i) (.int j) H Q := .inl ⟨i, j, rfl, rfl, c, h⟩
theorem s_mulS {z : Str} {n : Int} (h1 : 2 ≤ n) (h2 : n ≤ 100000) (hz : z.length = 1) (h : Q (.str (repS z n.toNat)) H) : rMulU (.str z) (.int n) H Q := .inr (.inl ⟨z, n, rfl, rfl, h1, h2, hz, h⟩)
theorem s_isN (h : Q (.bl (decide (x = .non))) H) : rIsU x .non H Q := .inl ⟨rfl, h⟩
theorem s_isB {a b : Bool} (h : Q (.bl (decide (a = b))) H) : rIsU (.bl a) (.bl b) H Q := .inr ⟨a, b, rfl, rfl, h⟩
theorem s_nisN (h : Q (.bl (!decide (x = .non))) H) : rIsNotU x .non H Q := .inl ⟨rfl, h⟩
theorem s_nisB {a b : Bool} (h : Q (.bl (!decide (a = b))) H) : rIsNotU (.bl a) (.bl b) H Q := .inr ⟨a, b, rfl, rfl, h⟩
theorem s_inS {c : Nat} {z : Str} (h : Q (.bl (decide (c ∈ z.cps.toList))) H) : rInU K (.str ⟨#[c]⟩) (.str z) H Q := .inl ⟨c, z, rfl, rfl, h⟩
theorem s_ninS {c : Nat} {z : Str} (h : Q (.bl (!decide (c ∈ z.cps.toList))) H) : rNotInU K (.str ⟨#[c]⟩) (.str z) H Q := .inl ⟨c, z, rfl, rfl, h⟩
theorem s_inT {p : Addr} {xs : List V} (hs : SqT K H p xs) (hx : flatV x = true) (ha : xs.all flatV = true) (h : Q (.bl (inV x xs)) H) : rInU K x (.ref p) H Q := .inr ⟨p, xs, rfl, .inr hs, hx, ha, h⟩
theorem s_inL {p : Addr} {xs : List V} (hs : H p = some (.lst xs)) (hx : flatV x = true) (ha : xs.all flatV = true) (h : Q (.bl (inV x xs)) H) : rInU K x (.ref p) H Q := .inr ⟨p, xs, rfl, .inl (.inl (.inl hs)), hx, ha, h⟩
theorem s_iL {p : Addr} {xs : List V} {i : Int} (hp : H p = some (.lst xs)) (e : atI xs i = some v) (h : Q v H) : rIxU K (.ref p) (.int i) H Q := .inl ⟨p, xs, i, v, rfl, rfl, .inl (.inl hp), e, h⟩
theorem s_iT {p : Addr} {xs : List V} {i : Int} (hp : H p = some (.tup xs)) (e : atI xs i = some v) (h : Q v H) : rIxU K (.ref p) (.int i) H Q := .inr (.inl ⟨p, xs, i, v, rfl, rfl, .inl (.inl hp), e, h⟩)
theorem s_iS {z : Str} {i : Int} {c : Nat} (hz : z.length ≤ sizeLine) (e : atI z.cps.toList i = some c) (h : Q (.str ⟨#[c]⟩) H) : rIxU K (.str z) (.int i) H Q := .inr (.inr ⟨z, i, c, rfl, rfl, hz, e, h⟩)
theorem s_slice {r : V → Option Int → Option Int → Hp → VK → Prop} {tl th : TO} (h : te σ H fun x H1 => tl σ H1 fun l H2 => th σ H2 fun u H3 => r x l u H3 Q) : tSl r te tl th σ H Q := h
theorem s_part {R : Option Int → Hp → Prop} (h : te σ H fun x H1 => ∃ i, x = .int i ∧ R (some i) H1) : tPart te σ H R := h
theorem s_partI {R : Int → Prop} {i : Int} (h : R i) : ∃ j, V.int i = .int j ∧ R j := ⟨i, rfl, h⟩
theorem s_nopart {R : Option Int → Hp → Prop} (h : R none H) : tNoPart σ H R := h
theorem s_slS {z : Str} {lo hi : Option Int} (hz : z.length ≤ sizeLine) (h : Q (.str (cutS z lo hi)) H) : rSlU K (.str z) lo hi H Q := .inr ⟨z, rfl, hz, h⟩
theorem s_slL {p : Addr} {xs : List V} {lo hi : Option Int} (hs : SqL K H p xs) (h : ∀ q H2, H q = none → Ex H H2 → H2 q = some (.lst (cutV xs lo hi)) → Q (.ref q) H2) : rSlU K (.ref p) lo hi H Q :=
  .inl ⟨p, xs, rfl, hs, fun q hq => h q _ hq (ex_new hq) upd_same⟩
theorem s_cI {i : Int} (h : Q (.int i) H) : rIntU K [.int i] H Q := .inl (.inl ⟨i, rfl, h⟩)
theorem s_cB {b : Bool} (h : Q (.int (if b then 1 else 0)) H) : rIntU K [.bl b] H Q := .inl (.inr ⟨b, rfl, h⟩)
theorem s_cT {z : Str} {n : Int} (e : PySem.intText? z = some n) (hz : z.length ≤ 640) (h : Q (.int n) H) : rIntU K [.str z] H Q := .inr (.inl ⟨z, n, rfl, e, hz, h⟩)
theorem s_listL {p : Addr} {xs : List V} (hs : SqL K H p xs) (h : ∀ q H2, H q = none → Ex H H2 → H2 q = some (.lst xs) → Q (.ref q) H2) : rListU K [.ref p] H Q :=
  .inl ⟨p, xs, rfl, .inl hs, fun q hq => h q _ hq (ex_new hq) upd_same⟩
theorem s_listS {z : Str} (hz : z.length ≤ sizeLine) (h : ∀ q H2, H q = none → Ex H H2 → H2 q = some (.lst (chars z)) → Q (.ref q) H2) : rListU K [.str z] H Q :=
  .inr ⟨z, rfl, hz, fun q hq => h q _ hq (ex_new hq) upd_same⟩
theorem s_isiT {n : String} {t : Value} {b : Bool} (ty : TyA K H x t) (e : PySem.W.kitOne K t (.type n) = some b) (h : Q (.bl b) H) : rIsiA K [x, .ty n] H Q := ⟨x, .ty n, t, .type n, b, rfl, .ty n, ty, e, h⟩
theorem s_isiC {C : Addr} {t : Value} {b : Bool} (ty : TyA K H x t) (e : PySem.W.kitOne K t (.ref C) = some b) (h : Q (.bl b) H) : rIsiA K [x, .ref C] H Q := ⟨x, .ref C, t, .ref C, b, rfl, .own C, ty, e, h⟩
theorem s_repr {d : PyData} (hd : Dp K H x d) (h1 : d.showable = true) (h2 : d.depth ≤ 60) (h3 : d.shown.length ≤ sizeLine) (h : Q (.str d.shown) H) : rRepr K [x] H Q := ⟨x, d, rfl, hd, h1, h2, h3, h⟩
theorem s_chain {r r' : R2} {tc : TE} (h : ta σ H fun x H1 => tb σ H1 fun y H2 => r x y H2 fun z H3 => ∃ k, z = .bl k ∧ (if k = true then tc σ H3 fun w' H4 => r' y w' H4 Q else Q (.bl false) H3)) : tChain r r' ta tb tc σ H Q := h
theorem s_bm {T : String} {r : V → List V → Hp → VK → Prop} {t : TA} (h : te σ H fun x H1 => tyV K T x H1 ∧ t σ H1 fun xs H2 => r x xs H2 Q) : tBM K T r te t σ H Q := h
theorem s_tyL {p : Addr} {xs : List V} {R : Prop} (hp : H p = some (.lst xs)) (h : R) : tyV K "list" (.ref p) H ∧ R := ⟨.inl ⟨rfl, _, .inl (.inl hp)⟩, h⟩
theorem s_app {p : Addr} {xs : List V} (hp : H p = some (.lst xs)) (hz : xs.length < sizeLine) (h : Q .non (upd H p (.lst (xs ++ [y])))) : rAppend (.ref p) [y] H Q := ⟨p, xs, y, rfl, rfl, hp, hz, h⟩
theorem s_all {a : Addr} {bs : List Bool} (hs : H a = some (.lst (bs.map V.bl))) (h : Q (.bl (bs.all id)) H) : rAll K [.ref a] H Q := ⟨a, bs, rfl, .inl (.inl hs), h⟩
theorem s_strI {R : Int → Prop} {i : Int} (hi : i.natAbs.log2 < 1920) (h : R i) : ∃ j, [V.int i] = [.int j] ∧ j.natAbs.log2 < 1920 ∧ R j := ⟨i, rfl, hi, h⟩
/-! comprehensions over a text, pure ones -/
def LC (J : It) (g : TG) (tt : TT) (te : TE) (vs : List Nat) (σ : L2.St) (H1 : Hp) (Q : VK) : Prop := ∀ D, H1 D = none → ∃ W : Nat → Nat → Hp → Prop, (∃ m, W 0 m (upd H1 D (.lst []))) ∧ ∀ i m H, W i m H →
  (J.stop i H ∧ Q (.ref D) H) ∨ (J.go i H ∧ ∃ Nx : Hp → Prop, (∀ H', Nx H' → ∃ m', m' < m ∧ W (i + 1) m' H') ∧ ∀ x H', J.yld i H x H' → g x (wipe σ vs) H' fun σ2 H2 => wipe σ2 vs = wipe σ vs ∧ tt σ2 H2 fun b H3 =>
    if b = true then te σ2 H3 fun y H4 => ∃ acc, H4 D = some (.lst acc) ∧ acc.length < sizeLine ∧ Nx (upd H4 D (.lst (acc ++ [y]))) else Nx H3)
theorem s_lcS {g : TG} {tt : TT} {vs : List Nat} (h : ta σ H fun v H1 => ∃ z, v = .str z ∧ LC (Its z) g tt te vs σ H1 Q) : tLc (iStr ta) g tt te vs σ H Q := h
theorem s_lcR {g : TG} {tt : TT} {vs : List Nat} {tr : TA} (h : tr σ H fun ws H1 => ∃ j : Int, ws = [.int j] ∧ -(2 ^ 62) ≤ j ∧ j < 2 ^ 62 ∧ LC (Itr 0 j.toNat) g tt te vs σ H1 Q) : tLc (iRng1 tr) g tt te vs σ H Q := h
theorem s_strE {R : Str → Prop} {z : Str} (h : R z) : ∃ y, V.str z = .str y ∧ R y := ⟨z, rfl, h⟩
theorem lcStr {z : Str} {j : Nat} {tt : TT} {vs : List Nat} (p : Nat → Bool) (f : Nat → V) (hz : z.length < sizeLine) (hw : ∀ x, wipe ((wipe σ vs).set j (some x)) vs = wipe σ vs)
    (ht : ∀ (c : Nat) (H' : Hp) (R : Bool → Hp → Prop), R (p c) H' → tt ((wipe σ vs).set j (some (.str ⟨#[c]⟩))) H' R) (he : ∀ (c : Nat) (H' : Hp) (R : VK), p c = true → R (f c) H' → te ((wipe σ vs).set j (some (.str ⟨#[c]⟩))) H' R)
    (k : ∀ q H2, H q = none → Ex H H2 → H2 q = some (.lst ((z.cps.toList.filter p).map f)) → Q (.ref q) H2) : LC (Its z) (gName j) tt te vs σ H Q := by
  intro Dl hD
  have hlen : z.cps.toList.length = z.cps.size := Array.length_toList
  refine lc_it walk_str (fun i H' => Ex H H' ∧ H' Dl = some (.lst (((z.cps.toList.take i).filter p).map f)) ∧ ∀ b, b ≠ Dl → H' b = H b) ⟨ex_new hD, by rw [upd_same]; rfl, fun b hb => upd_ne hb⟩ (fun _ _ _ _ => trivial) ?_ ?_
  · rintro i x H1 H2 hi ⟨e1, e2, e3⟩ ⟨rfl, c, hc, rfl⟩
    have hc' : z.cps.toList[i]? = some c := by simpa using hc
    have htk : z.cps.toList.take (i + 1) = z.cps.toList.take i ++ [c] := by rw [List.take_add_one, hc']; rfl
    show wipe _ vs = wipe σ vs ∧ _
    refine ⟨hw _, ht c H2 _ ?_⟩
    refine iteB (fun hp => ?_) (fun hp => ?_)
    · refine he c H2 _ hp ⟨_, e2, ?_, fun b o hb => ?_, ?_, fun b hb => ?_⟩
      · rw [List.length_map]
        refine Nat.lt_of_le_of_lt (List.length_filter_le _ _) (Nat.lt_of_le_of_lt ?_ hz)
        rw [List.length_take]
        show _ ≤ z.cps.size
        omega
      · rw [upd_ne (ne_of_none hb hD)]
        exact e1 b o hb
      · rw [upd_same, htk, List.filter_append, List.map_append]
        simp [hp]
      · rw [upd_ne hb]; exact e3 b hb
    · refine ⟨e1, ?_, e3⟩
      rw [e2, htk, List.filter_append, List.map_append]
      simp [hp]
  · rintro H1 ⟨e1, e2, _⟩
    rw [show z.cps.size = z.cps.toList.length from hlen.symm, List.take_length] at e2
    exact k _ _ hD e1 e2
end
end L3
end
local macro_rules | `(tactic| tm_at "s1") => `(tactic| first
  | with_reducible first
    | refine L3.s_seq ?_ | refine L3.s_asg ?_ | refine L3.s_op ?_ | refine L3.s_c ?_ | refine L3.s_cb ?_ | refine L3.s_cons ?_ | refine L3.s_nil ?_ | refine L3.s_test ?_ | refine L3.s_bl ?_
    | refine L3.s_I0 ?_ | refine L3.s_and ?_ | refine L3.s_or ?_ | refine L3.s_not ?_ | refine L3.s_if ?_ | refine L3.s_next ?_ | refine L3.s_ret ?_ | refine L3.s_retN ?_ | refine L3.s_asgS ?_ | refine L3.s_drop ?_
    | refine L3.s_un ?_ | refine L3.s_U ?_ | refine L3.s_int ?_ | refine L3.s_intB ?_ | refine L3.s_abs ?_ | refine L3.s_andV ?_ | refine L3.s_orV ?_ | refine L3.s_notV ?_ | refine L3.s_ifE ?_ | refine L3.s_call ?_ | refine L3.s_lst ?_ | refine L3.s_tup ?_ | refine L3.s_tB ?_
    | refine L3.s_addI ?_ | refine L3.s_inS ?_ | refine L3.s_ninS ?_ | refine L3.s_slice ?_ | refine L3.s_part ?_ | refine L3.s_partI ?_ | refine L3.s_nopart ?_ | refine L3.s_cI ?_ | refine L3.s_cB ?_ | refine L3.s_chain ?_ | refine L3.s_bm ?_ | refine L3.s_lcS ?_ | refine L3.s_lcR ?_ | refine L3.s_strE ?_
    | refine L2.iteT ?_ | refine L2.iteF ?_ | refine L3.iteNF ?_ | refine L3.iteNT ?_
    | refine L3.s_eqI ?_ | refine L3.s_neI ?_ | refine L3.s_eqS ?_ | refine L3.s_neS ?_
    | refine L3.s_pair ?_ | refine L3.s_pair2 ?_ | refine L3.s_fld ?_ | refine L3.s_make ?_ | refine L3.s_m1 ?_ | refine L3.s_isstr ?_
    | refine L3.s_isN ?_ | refine L3.s_isB ?_ | refine L3.s_nisN ?_ | refine L3.s_nisB ?_
  | ((with_reducible refine' L3.s_var ?e ?_); (case e => rfl))
  | ((with_reducible refine' L3.s_pow ?c ?_); (case c => exact ⟨by decide, by decide, by decide⟩)))
local macro_rules | `(tactic| tm_at "s") => `(tactic| repeat tm_at "s1")
section
namespace L3
open PySem PySem.Spec PyProof.Rows L2
/-! ## the draw, whatever its numbers are -/
theorem mulL {i j : Int} (h : -(2 ^ 64) < i ∧ i < 2 ^ 64) : IntMulOk i j := CMul.ok (.inl h)
def spDraw : Sp := fun vs H Q _ => ∃ a n many, vs = [.ref a, .int many] ∧ 0 < many ∧ many.natAbs < 2 ^ 8000 ∧ Pen H a n ∧ n < lim ∧
  ∀ (d : Int) (H' : Hp), 0 ≤ d → d < many → Pen H' a (n + 1) → (∀ b o, b ≠ a → H b = some o → H' b = some o) → Q (.int d) H'
abbrev rSub : R2 := rI0 fun i j => V.int (i - j)
abbrev rMod : R2 := rI (fun _ j => 0 < j) fun i j => V.int (i % j)
abbrev rDivW : R2 := rI CDivW fun i j => V.int (i / j)
abbrev rPow : R2 := rI CPow fun i j => V.int (i ^ j.toNat)
abbrev t1 (r : List V → Hp → VK → Prop) (te : TE) : TE := tCB r (tCons te tNil)
abbrev tI (i : Int) : TE := tC (.int i)
def tDraw (K : PySem.W.Frag) (c1 c2 c3 c4 c5 c6 c7 c8 c9 c10 : Int) : TS :=
  tSeq (tIfS (tTest (tOp (rI0 fun i j => V.bl (decide (j < i))) (tOp (rIxU K) (tVar 0) (tI 2)) (tI 0)))
    (tSeq (tAsg (tOp rMod (t1 (rIntU K) (tOp (rIxU K) (tVar 0) (tI 2))) (tVar 1)) (gName 2))
    (tSeq (tAsg (tOp rDivW (t1 (rIntU K) (tOp (rIxU K) (tVar 0) (tI 2))) (tVar 1)) (gSub (tVar 0) (tI 2) rSetL))
      (tRet (tVar 2)))) tNext)
  (tSeq (tAsg (tOp (rIxU K) (tVar 0) (tI 1)) (gName 3))
  (tSeq (tAsg (tOp rAddU (tVar 3) (tI 1)) (gSub (tVar 0) (tI 1) rSetL))
  (tSeq (tAsg (tOp rAddU (tOp rMulU (tI c1) (tVar 3)) (tI c2)) (gName 4))
  (Evl.tCut (tIfS (tTest (tOp (rNeU K) (tOp (rIxU K) (tVar 0) (tI 0)) (tLst tNil)))
    (tAsg (tOp (rIxU K) (tOp (rIxU K) (tVar 0) (tI 0)) (tOp rMod (t1 (rIntU K) (tVar 3)) (t1 (rLen1 K) (tOp (rIxU K) (tVar 0) (tI 0))))) (gName 4)) tNext)
  (tSeq (tIfS (tAnd (tTest (tOp (rI0 fun i j => V.bl (decide (i < j))) (tVar 3) (t1 (rLen1 K) (tOp (rIxU K) (tVar 0) (tI 0))))) (tTest (tOp (rI0 fun i j => V.bl (decide (j ≤ i))) (t1 rAbs1 (tVar 4)) (tOp rPow (tI 10) (tI 18)))))
    (tSeq (tAsg (tOp rAddU (tOp rMulU (tI 2) (tOp rSub (t1 rAbs1 (tVar 4)) (tOp rPow (tI 10) (tI 18)))) (t1 (rIntU K) (tOp (rI0 fun i j => V.bl (decide (i < j))) (tVar 4) (tI 0)))) (gName 5))
    (tSeq (tAsg (tOp rDivW (t1 (rIntU K) (tVar 5)) (tVar 1)) (gSub (tVar 0) (tI 2) rSetL))
      (tRet (tOp rMod (t1 (rIntU K) (tVar 5)) (tVar 1))))) tNext)
  (tSeq (tAsg (tOp rMod (t1 (rIntU K) (tOp rPow (tOp rAddU (tOp rAddU (tOp rMod (t1 (rIntU K) (tVar 4)) (tI c3)) (tOp rMulU (tI c4) (tVar 3))) (tI c5)) (tI 5))) (tI c6)) (gName 6))
  (tSeq (tAsg (tOp rMod (t1 (rIntU K) (tOp rPow (tOp rAddU (tOp rAddU (tOp rMulU (tVar 6) (tOp rAddU (tOp rMulU (tI 2) (tVar 3)) (tI c7))) (tOp rMulU (tOp rMulU (tI c8) (tVar 3)) (tVar 3))) (tI c9)) (tI 3))) (tI c10)) (gName 6))
    (tRet (tOp rMod (t1 (rIntU K) (tOp rDivW (tVar 6) (tI 32))) (tVar 1))))))))))
structure DrawC (c1 c2 c3 c4 c5 c6 c7 c8 c9 c10 : Int) : Prop where
  h1 : 0 ≤ c1 ∧ c1 < 1000000
  h3 : 0 < c3 ∧ c3 < 4294967296
  h4 : 0 ≤ c4 ∧ c4 < 1000000
  h5 : 0 ≤ c5 ∧ c5 < 1000000
  h6 : 0 < c6 ∧ c6 < 4294967296
  h7 : 0 ≤ c7 ∧ c7 < 1000000
  h8 : 0 ≤ c8 ∧ c8 < 1000000
  h9 : 0 ≤ c9 ∧ c9 < 1000000
  h10 : 0 < c10 ∧ c10 < 4294967296
theorem shInts (ns : List Int) : SeqAt.shaped (.list (ns.map PyData.int)) = true := by
  have h1 : ∀ l : List Int, PyData.canLayAll0 (l.map PyData.int) = true := by
    intro l
    induction l with
    | nil => rfl
    | cons x r ih => rw [List.map_cons]; unfold PyData.canLayAll0; rw [ih]; rfl
  have h2 : ∀ l : List Int, PyData.depthAll (l.map PyData.int) = 0 := by
    intro l
    induction l with
    | nil => rfl
    | cons x r ih => rw [List.map_cons]; unfold PyData.depthAll; rw [ih]; rfl
  unfold SeqAt.shaped PyData.canLay0 PyData.depth
  rw [h1, h2]; decide
theorem atI_int {α : Type} {xs : List α} {i : Int} (h0 : 0 ≤ i) (h : i < xs.length) : atI xs i = xs[i.toNat]? := by
  unfold atI ixN
  rw [if_pos h0, if_pos h]
  rfl
theorem natAbs_lt {x : Int} {k : Nat} (h0 : 0 ≤ x) (h : x < k) : x.natAbs < k := by omega
theorem rd_draw {K : PySem.W.Frag} {c1 c2 c3 c4 c5 c6 c7 c8 c9 c10 : Int} (C : DrawC c1 c2 c3 c4 c5 c6 c7 c8 c9 c10) {a c : Addr} {n : Nat} {many : Int} {ns : List Int} {H : Hp} {Q : VK} {Nn : L2.St → Hp → Prop} {B1 B2 : L2.St → Hp → Prop}
    (hm : 0 < many) (hm2 : many.natAbs < 2 ^ 8000) (ha : H a = some (PenO a c n)) (hc : H c = some (.lst (ns.map V.int))) (hn : n < lim) (hl : ns.length ≤ 63)
    (k : ∀ (d : Int) (H' : Hp), 0 ≤ d → d < many → (H' a = some (PenO a c (n + 1)) ∧ H' c = some (.lst (ns.map V.int))) → (∀ b o, b ≠ a → H b = some o → H' b = some o) → Q (.int d) H') :
    tPen a c n (n + 1) (tDraw K c1 c2 c3 c4 c5 c6 c7 c8 c9 c10) { nx := Nn, rt := Q, bk := B1, ct := B2 } [some (.ref a), some (.int many), none, none, none, none, none] H := by
  refine ⟨ha, fun spot rest h0 h1 => ?_⟩
  have nca : c ≠ a := fun z => by rw [z, ha] at hc; cases hc
  have fin : ∀ (d spot' rest' : Int) (H1 : Hp), 0 ≤ d → d < many → 0 ≤ spot' → spot' ≤ n + 1 → H1 a = some (.lst [.ref c, .int spot', .int rest']) → (∀ b o, b ≠ a → H b = some o → H1 b = some o) → penBack a c (n + 1) (Q (.int d)) H1 := by
    intro d sp re H1 d0 d1 s0 s1 e q
    exact ⟨sp, re, e, s0, by omega, k d _ d0 d1 ⟨upd_same, by rw [upd_ne nca]; exact q c _ nca hc⟩ (fun b o hb => by rw [upd_ne hb]; exact q b o hb)⟩
  unfold tDraw
  tm_at "s"
  refine s_iL upd_same rfl ?_
  tm_at "s"
  refine iteD (fun hpos => ?_) (fun _ => ?_)
  · tm_at "s"
    refine s_iL upd_same rfl ?_
    tm_at "s"
    refine s_I hm ?_
    tm_at "s"
    refine s_iL upd_same rfl ?_
    tm_at "s"
    refine s_I (wide_div hm hm2 (by decide) (by decide)) ?_
    tm_at "s"
    refine s_setL upd_same rfl ?_
    tm_at "s"
    exact fin _ spot _ _ (Int.emod_nonneg _ (by omega)) (Int.emod_lt_of_pos _ hm) h0 (by omega) upd_same (fun b o hb hh => by rw [upd_ne hb, upd_ne hb]; exact hh)
  · tm_at "s"
    refine s_iL upd_same rfl ?_
    tm_at "s"
    refine s_setL upd_same rfl ?_
    have hs : (spot : Int) ≤ 1000000 := by unfold lim at hn; omega
    tm_at "s"
    refine s_mulI (mulL ⟨by have := C.h1; omega, by have := C.h1; omega⟩) ?_
    tm_at "s"
    refine s_cut (M := fun σ' H' => ∃ cell : Int, σ' = [some (.ref a), some (.int many), none, some (.int spot), some (.int cell), none, none] ∧ H' a = some (.lst [.ref c, .int (spot + 1), .int rest]) ∧ ∀ b o, b ≠ a → H b = some o → H' b = some o) ?_ ?_
    · tm_at "s"
      refine s_iL upd_same rfl ?_
      tm_at "s"
      refine s_new (by decide) fun p H2 hp e2 h2 => ?_
      have a2 : H2 a = some (.lst [.ref c, .int (spot + 1), .int rest]) := e2 _ _ upd_same
      have k2 : ∀ b o, b ≠ a → H b = some o → H2 b = some o := fun b o hb hh => e2 _ _ (by rw [upd_ne hb, upd_ne hb]; exact hh)
      have c2 := k2 c _ nca hc
      clear hp e2
      refine s_neD' (.lst (.inl (.inl c2)) (dpInts ns)) (.lst (.inl (.inl h2)) .nil) (shInts ns) rfl ?_
      tm_at "s"
      refine iteB (fun hne => ?_) (fun _ => ?_)
      · tm_at "s"
        refine s_iL a2 rfl ?_
        tm_at "s"
        refine s_iL a2 rfl ?_
        tm_at "s"
        refine s_lenL c2 ?_
        rw [List.length_map]
        have hns : 0 < ns.length := by
          cases ns with
          | nil => exact absurd hne (by decide)
          | cons x r => exact Nat.succ_pos _
        refine s_I (by omega) ?_
        have hx : spot % (ns.length : Int) < ns.length := Int.emod_lt_of_pos _ (by omega)
        have hx0 : 0 ≤ spot % (ns.length : Int) := Int.emod_nonneg _ (by omega)
        have hxn : (spot % (ns.length : Int)).toNat < ns.length := by omega
        refine s_iL c2 (v := .int (ns[(spot % (ns.length : Int)).toNat]'hxn)) ?_ ?_
        · rw [atI_int hx0 (by rw [List.length_map]; exact hx), List.getElem?_map, List.getElem?_eq_getElem hxn]
          rfl
        · exact ⟨_, rfl, a2, k2⟩
      · tm_at "s"
        exact ⟨_, rfl, a2, k2⟩
    · rintro σ' H2 ⟨cell, rfl, a2, k2⟩
      have c2 := k2 c _ nca hc
      have main : (tSeq (tAsg (tOp rMod (t1 (rIntU K) (tOp rPow (tOp rAddU (tOp rAddU (tOp rMod (t1 (rIntU K) (tVar 4)) (tI c3)) (tOp rMulU (tI c4) (tVar 3))) (tI c5)) (tI 5))) (tI c6)) (gName 6))
          (tSeq (tAsg (tOp rMod (t1 (rIntU K) (tOp rPow (tOp rAddU (tOp rAddU (tOp rMulU (tVar 6) (tOp rAddU (tOp rMulU (tI 2) (tVar 3)) (tI c7))) (tOp rMulU (tOp rMulU (tI c8) (tVar 3)) (tVar 3))) (tI c9)) (tI 3))) (tI c10)) (gName 6))
            (tRet (tOp rMod (t1 (rIntU K) (tOp rDivW (tVar 6) (tI 32))) (tVar 1)))))
          { nx := fun σ' => penBack a c (n + 1) (Nn σ'), rt := fun v => penBack a c (n + 1) (Q v), bk := fun σ' => penBack a c (n + 1) (B1 σ'), ct := fun σ' => penBack a c (n + 1) (B2 σ') }
          [some (.ref a), some (.int many), none, some (.int spot), some (.int cell), none, none] H2 := by
        have hc3 := C.h3; have hc4 := C.h4; have hc5 := C.h5; have hc6 := C.h6; have hc7 := C.h7; have hc8 := C.h8; have hc9 := C.h9; have hc10 := C.h10
        tm_at "s"
        refine s_I hc3.1 ?_
        tm_at "s"
        refine s_mulI (mulL ⟨by omega, by omega⟩) ?_
        tm_at "s"
        have e1 : 0 ≤ cell % c3 := Int.emod_nonneg _ (by omega)
        have e2 : cell % c3 < c3 := Int.emod_lt_of_pos _ hc3.1
        have e3 : 0 ≤ c4 * spot := Int.mul_nonneg hc4.1 h0
        have e4 : c4 * spot ≤ 1000000 * 1000000 := Int.mul_le_mul (by omega) hs h0 (by decide)
        refine s_pow ⟨by decide, by decide, ?_⟩ ?_
        · exact natAbs_lt (by omega) (by show _ < ((2 ^ 64 : Nat) : Int); omega)
        tm_at "s"
        refine s_I hc6.1 ?_
        generalize hg : ((cell % c3 + c4 * spot + c5) ^ (Int.toNat 5)) % c6 = g
        have g0 : 0 ≤ g := by rw [← hg]; exact Int.emod_nonneg _ (by omega)
        have g1 : g < c6 := by rw [← hg]; exact Int.emod_lt_of_pos _ hc6.1
        tm_at "s"
        refine s_mulI (mulL (by decide)) ?_
        tm_at "s"
        refine s_mulI (mulL ⟨by omega, by omega⟩) ?_
        tm_at "s"
        refine s_mulI (mulL ⟨by omega, by omega⟩) ?_
        have f3 : 0 ≤ c8 * spot := Int.mul_nonneg hc8.1 h0
        have f4 : c8 * spot ≤ 1000000 * 1000000 := Int.mul_le_mul (by omega) hs h0 (by decide)
        tm_at "s"
        refine s_mulI (mulL ⟨by omega, by omega⟩) ?_
        have f5 : 0 ≤ c8 * spot * spot := Int.mul_nonneg f3 h0
        have f6 : c8 * spot * spot ≤ 1000000 * 1000000 * 1000000 := Int.mul_le_mul f4 hs h0 (by decide)
        have f7 : 0 ≤ g * (2 * spot + c7) := Int.mul_nonneg g0 (by omega)
        have f8 : g * (2 * spot + c7) ≤ 4294967296 * 3000000 := Int.mul_le_mul (by omega) (by omega) (by omega) (by decide)
        tm_at "s"
        refine s_pow ⟨by decide, by decide, ?_⟩ ?_
        · exact natAbs_lt (by omega) (by show _ < ((2 ^ 64 : Nat) : Int); omega)
        tm_at "s"
        refine s_I hc10.1 ?_
        tm_at "s"
        refine s_I (wide_div (b := 64) (by decide) (by decide) (by decide) (by decide)) ?_
        tm_at "s"
        refine s_I hm ?_
        exact fin _ (spot + 1) rest _ (Int.emod_nonneg _ (by omega)) (Int.emod_lt_of_pos _ hm) (by omega) (by omega) a2 k2
      tm_at "s"
      refine s_iL a2 rfl ?_
      tm_at "s"
      refine s_lenL c2 ?_
      tm_at "s"
      refine iteD (fun _ => ?_) (fun _ => ?_)
      · tm_at "s"
        refine iteD (fun hbig => ?_) (fun _ => ?_)
        · tm_at "s"
          refine s_mulI (mulL (by decide)) ?_
          tm_at "s"
          refine s_I (wide_div hm hm2 (by decide) (by decide)) ?_
          tm_at "s"
          refine s_setL a2 rfl ?_
          tm_at "s"
          refine s_I hm ?_
          exact fin _ (spot + 1) _ _ (Int.emod_nonneg _ (by omega)) (Int.emod_lt_of_pos _ hm) (by omega) (by omega) upd_same (fun b o hb hh => by rw [upd_ne hb]; exact k2 b o hb hh)
        · exact main
      · refine iteF ?_
        exact main
theorem rd_drawS {K : PySem.W.Frag} {c1 c2 c3 c4 c5 c6 c7 c8 c9 c10 : Int} (C : DrawC c1 c2 c3 c4 c5 c6 c7 c8 c9 c10) {a c : Addr} {n : Nat} {many : Int} {ns : List Int} {H : Hp} {Q : VK} {Nn : L2.St → Hp → Prop} {B1 B2 : L2.St → Hp → Prop}
    (hm : 0 < many) (hm2 : many.natAbs < 2 ^ 8000) (ha : H a = some (PenO a c n)) (hc : H c = some (ScO c ns)) (hn : n < lim) (hl : ns.length ≤ 63 ∧ c ≠ a)
    (k : ∀ (d : Int) (H' : Hp), 0 ≤ d → d < many → Pen H' a (n + 1) → (∀ b o, b ≠ a → H b = some o → H' b = some o) → Q (.int d) H') :
    tSc c ns (tPen a c n (n + 1) (tDraw K c1 c2 c3 c4 c5 c6 c7 c8 c9 c10)) { nx := Nn, rt := Q, bk := B1, ct := B2 } [some (.ref a), some (.int many), none, none, none, none, none] H := by
  refine ⟨hc, rd_draw C hm hm2 (by rw [upd_ne (Ne.symm hl.2)]; exact ha) upd_same hn hl.1 fun d H' d0 d1 ⟨p1, p2⟩ q => ?_⟩
  refine ⟨p2, k d _ d0 d1 ⟨c, ns, by rw [upd_ne (Ne.symm hl.2)]; exact p1, upd_same, hl⟩ fun b o hb ho => ?_⟩
  by_cases hbc : b = c
  · subst hbc
    rw [upd_same, ← hc]; exact ho
  · rw [upd_ne hbc]
    exact q b o hb (by rw [upd_ne hbc]; exact ho)
end L3
end
section
namespace L3
open PySem PySem.Spec PyProof.Rows L2 PySem.NumText
/-! ## Texts of numbers -/
theorem str_ext {a b : Str} (h : a.cps.toList = b.cps.toList) : a = b := by
  cases a; cases b
  have := Array.ext' h
  cases this; rfl
theorem cut_take (z : Str) : (cutS z none (some 1)).cps.toList = z.cps.toList.take 1 := by
  unfold cutS
  have e0 : HT.sIx z.length 0 none = 0 := rfl
  have e1 : z.cps.toList.length = z.length := Array.length_toList
  rw [e0, List.drop_zero, Nat.sub_zero]
  show z.cps.toList.take (HT.sIx z.length z.length (some 1)) = _
  have : HT.sIx z.length z.length (some 1) = min 1 z.length := by
    unfold HT.sIx
    simp
    try omega
  rw [this]
  by_cases h : z.length = 0
  · rw [h]
    have : z.cps.toList = [] := List.length_eq_zero_iff.mp (e1.trans h)
    rw [this]; rfl
  · rw [show min 1 z.length = 1 by omega]
theorem cut_drop (z : Str) : (cutS z (some 1) none).cps.toList = z.cps.toList.drop 1 := by
  unfold cutS
  have e1 : z.cps.toList.length = z.length := Array.length_toList
  have e0 : HT.sIx z.length z.length none = z.length := rfl
  rw [e0]
  have : HT.sIx z.length 0 (some 1) = min 1 z.length := by
    unfold HT.sIx
    simp
    try omega
  rw [this]
  show (z.cps.toList.drop (min 1 z.length)).take (z.length - min 1 z.length) = _
  rw [List.take_of_length_le (by rw [List.length_drop]; omega)]
  by_cases h : z.length = 0
  · have : z.cps.toList = [] := List.length_eq_zero_iff.mp (e1.trans h)
    rw [this]; simp
  · rw [show min 1 z.length = 1 by omega]
abbrev digT : Str := "0123456789"
def isDig (c : Nat) : Bool := decide (c ∈ digT.cps.toList)
theorem isDig_iff (c : Nat) : isDig c = true ↔ 48 ≤ c ∧ c ≤ 57 := by
  unfold isDig
  rw [decide_eq_true_eq]
  show c ∈ [48, 49, 50, 51, 52, 53, 54, 55, 56, 57] ↔ _
  simp only [List.mem_cons, List.not_mem_nil, or_false]
  omega
def figsOf (z : Str) : Str := if decide (cutS z none (some 1) = "-") = true then cutS z (some 1) none else z
theorem figs_neg {z : Str} {r : List Nat} (h : z.cps.toList = 45 :: r) : (figsOf z).cps.toList = r := by
  unfold figsOf
  rw [if_pos, cut_drop, h]
  · rfl
  · refine decide_eq_true (str_ext ?_)
    rw [cut_take, h]; rfl
theorem figs_pos {z : Str} (h : z.cps.toList.head? ≠ some 45) : figsOf z = z := by
  unfold figsOf
  rw [if_neg]
  intro q
  have q := of_decide_eq_true q
  have q2 : (cutS z none (some 1)).cps.toList = [45] := by rw [q]; rfl
  rw [cut_take] at q2
  cases hz : z.cps.toList with
  | nil => rw [hz] at q2; cases q2
  | cons c r =>
    rw [hz] at q2 h
    have : c = 45 := by simpa using q2
    exact h (by rw [this]; rfl)
def figB (z : Str) : Bool := ((decide (1 ≤ ((figsOf z).length : Int)) && decide (((figsOf z).length : Int) ≤ 4000)) && (figsOf z).cps.toList.all isDig) && (decide (z = "0") || !decide ((figsOf z).cps.toList.head? = some 48))
theorem digits_all {l : List Nat} (h : l.all isDig = true) : AllDigits l := fun c hc => (isDig_iff c).mp (List.all_eq_true.mp h c hc)
/-- the number that a text of figures writes -/
def valOf (z : Str) : Int := if z.cps.toList.head? = some 45 then -((digitsVal (z.cps.toList.drop 1) : Nat) : Int) else ((digitsVal z.cps.toList : Nat) : Int)
theorem len_codes (z : Str) : z.cps.toList.length = z.length := Array.length_toList
/-- figures alone, at least one and at most 4,299 of them: the number is read -/
theorem read_figs {z : Str} (h1 : (figsOf z).cps.toList ≠ []) (h2 : (figsOf z).cps.toList.all isDig = true) (h3 : (figsOf z).length ≤ 4000) : PySem.intText? z = some (valOf z) := by
  unfold valOf
  by_cases hn : z.cps.toList.head? = some 45
  · rw [if_pos hn]
    obtain ⟨r, hr⟩ : ∃ r, z.cps.toList = 45 :: r := by
      cases hz : z.cps.toList with
      | nil => rw [hz] at hn; cases hn
      | cons c r => rw [hz] at hn; have : c = 45 := by simpa using hn
                    subst this; exact ⟨r, rfl⟩
    rw [figs_neg hr] at h1 h2
    have h4 := len_codes (figsOf z)
    rw [figs_neg hr] at h4
    have h5 := len_codes z
    rw [hr] at h5
    rw [intText_neg hr (digits_all h2) h1 (by simp at h5; omega), hr]
    rfl
  · rw [if_neg hn]
    rw [figs_pos hn] at h1 h2 h3
    exact intText_digits (digits_all h2) h1 (by omega)
theorem fig_read {z : Str} (h : figB z = true) : PySem.intText? z = some (valOf z) := by
  unfold figB at h
  simp only [Bool.and_eq_true, decide_eq_true_eq] at h
  obtain ⟨⟨⟨h1, h2⟩, h3⟩, _⟩ := h
  refine read_figs (fun e => ?_) h3 (by omega)
  have := len_codes (figsOf z)
  rw [e] at this
  simp at this
  omega
/-! str of an int -/
def strOf (n : Int) : Str := Str.ofString (toString n)
theorem strOf_nat (n : Nat) : (strOf (n : Int)).cps.toList = TL.numL n := TL.tl_num n
theorem ofString_codes (s : String) : (Str.ofString s).cps.toList = s.toList.map Char.toNat := by
  rw [Str.ofString_eq_toList]
theorem strOf_neg {m : Nat} (h : 0 < m) : (strOf (-(m : Int))).cps.toList = 45 :: TL.numL m := by
  obtain ⟨k, rfl⟩ : ∃ k, m = k + 1 := ⟨m - 1, by omega⟩
  have e : toString (-((k + 1 : Nat) : Int)) = "-" ++ toString (((k + 1 : Nat) : Int)) := rfl
  unfold strOf
  rw [e, ofString_codes, String.toList_append, List.map_append, ← ofString_codes, ← ofString_codes]
  show [45] ++ _ = _
  have := strOf_nat (k + 1)
  unfold strOf at this
  rw [this]
  rfl
theorem val_snoc (ds : List Nat) (c : Nat) : digitsVal (ds ++ [c]) = digitsVal ds * 10 + (c - 48) := by
  unfold digitsVal
  rw [List.foldl_append]
  rfl
theorem canon : ∀ (n : Nat) (ds : List Nat), ds.length = n → AllDigits ds → ds ≠ [] → ds.head? ≠ some 48 → TL.numL (digitsVal ds) = ds ∧ 0 < digitsVal ds := by
  intro n
  induction n with
  | zero => intro ds h _ hne; exact absurd (List.length_eq_zero_iff.mp h) hne
  | succ n ih =>
    intro ds hl ha hne hh
    have hd : ds = ds.dropLast ++ [ds.getLast hne] := (List.dropLast_concat_getLast hne).symm
    generalize ds.getLast hne = c at hd
    generalize ds.dropLast = es at hd
    subst hd
    have hc := ha c (by simp)
    rw [val_snoc]
    by_cases he : es = []
    · subst he
      have hc0 : c ≠ 48 := fun z => hh (by rw [z]; rfl)
      show TL.numL (0 * 10 + (c - 48)) = [c] ∧ _
      rw [Nat.zero_mul, Nat.zero_add, TL.numL_lt (by omega)]
      exact ⟨by rw [show 48 + (c - 48) = c by omega], by show 0 < 0 * 10 + (c - 48); omega⟩
    · have hl' : es.length = n := by simp at hl; omega
      have hh' : es.head? ≠ some 48 := by
        cases es with
        | nil => exact absurd rfl he
        | cons a b => exact hh
      obtain ⟨i1, i2⟩ := ih es hl' (fun d hd => ha d (by simp [hd])) he hh'
      refine ⟨?_, by omega⟩
      rw [TL.numL_step (by omega), show (digitsVal es * 10 + (c - 48)) / 10 = digitsVal es by omega, i1, show (digitsVal es * 10 + (c - 48)) % 10 = c - 48 by omega, show 48 + (c - 48) = c by omega]
theorem numL_head (n : Nat) : TL.numL n = [48] ∧ n = 0 ∨ (TL.numL n).head? ≠ some 48 ∧ 0 < n := by
  induction n using Nat.strongRecOn with
  | _ n ih =>
    by_cases h : n < 10
    · rw [TL.numL_lt h]
      by_cases h0 : n = 0
      · left; subst h0; exact ⟨rfl, rfl⟩
      · right; exact ⟨fun z => by have : 48 + n = 48 := by simpa using z
                                  omega, by omega⟩
    · right
      refine ⟨?_, by omega⟩
      rw [TL.numL_step (by omega)]
      rcases ih (n / 10) (by omega) with ⟨_, z⟩ | ⟨z, _⟩
      · omega
      · cases hq : TL.numL (n / 10) with
        | nil => exact absurd hq (TL.numL_ne _)
        | cons a b => rw [hq] at z; exact z
theorem head45 {l : List Nat} (h : l.head? = some 45) : ∃ r, l = 45 :: r := by
  cases l with
  | nil => cases h
  | cons c r => have : c = 45 := by simpa using h
                subst this; exact ⟨r, rfl⟩
/-- what str writes is just the text without a nought in front -/
theorem str_back {z : Str} (h1 : (figsOf z).cps.toList ≠ []) (h2 : (figsOf z).cps.toList.all isDig = true) :
    decide (strOf (valOf z) = z) = (decide (z = "0") || !decide ((figsOf z).cps.toList.head? = some 48)) := by
  have hx : ∀ {a : Str}, decide (a = z) = decide (a.cps.toList = z.cps.toList) := fun {a} => by
    by_cases h : a = z
    · subst h; simp
    · rw [decide_eq_false h, decide_eq_false fun q => h (str_ext q)]
  have hz0 : decide (z = "0") = decide (z.cps.toList = [48]) := by
    by_cases h : z = "0"
    · subst h; decide +kernel
    · rw [decide_eq_false h]
      exact (decide_eq_false fun q => h (str_ext q)).symm
  rw [hx, hz0]
  unfold valOf
  by_cases hn : z.cps.toList.head? = some 45
  · rw [if_pos hn]
    obtain ⟨r, hr⟩ := head45 hn
    rw [figs_neg hr] at h1 h2 ⊢
    rw [hr]
    have ha := digits_all h2
    show decide ((strOf (-((digitsVal r : Nat) : Int))).cps.toList = 45 :: r) = (decide ((45 :: r : List Nat) = [48]) || _)
    rw [decide_eq_false (show ¬ (45 :: r : List Nat) = [48] from fun q => by cases q), Bool.false_or]
    by_cases hh : r.head? = some 48
    · rw [decide_eq_true hh]
      refine decide_eq_false fun q => ?_
      by_cases h0 : digitsVal r = 0
      · rw [h0] at q
        have e : (strOf (-((0 : Nat) : Int))).cps.toList = [48] := by decide +kernel
        rw [e] at q; cases q
      · rw [strOf_neg (by omega)] at q
        have q2 : TL.numL (digitsVal r) = r := (List.cons.inj q).2
        rcases numL_head (digitsVal r) with ⟨_, z⟩ | ⟨z, _⟩
        · exact h0 z
        · rw [q2] at z; exact z hh
    · rw [decide_eq_false hh]
      obtain ⟨c1, c2⟩ := canon _ r rfl ha h1 hh
      refine decide_eq_true ?_
      rw [strOf_neg c2, c1]
  · rw [if_neg hn]
    rw [figs_pos hn] at h1 h2 ⊢
    have ha := digits_all h2
    rw [strOf_nat]
    by_cases hh : z.cps.toList.head? = some 48
    · rw [decide_eq_true hh, Bool.not_true, Bool.or_false]
      by_cases hz : z.cps.toList = [48]
      · rw [hz]; decide +kernel
      · rw [decide_eq_false hz]
        refine decide_eq_false fun q => ?_
        rcases numL_head (digitsVal z.cps.toList) with ⟨y, _⟩ | ⟨y, _⟩
        · rw [q] at y; exact hz y
        · rw [q] at y; exact y hh
    · rw [decide_eq_false hh, Bool.not_false, Bool.or_true]
      exact decide_eq_true (canon _ _ rfl ha h1 hh).1
theorem figs_len (z : Str) : (figsOf z).length ≤ z.length := by
  unfold figsOf
  split
  · rw [← len_codes, ← len_codes z, cut_drop, List.length_drop]
    omega
  · exact Nat.le_refl _
theorem figs_sign {z : Str} (h2 : (figsOf z).cps.toList.all isDig = true) : ∀ c ∈ z.cps.toList, c = 45 ∨ (48 ≤ c ∧ c ≤ 57) := by
  intro c hc
  by_cases hn : z.cps.toList.head? = some 45
  · obtain ⟨r, hr⟩ := head45 hn
    rw [figs_neg hr] at h2
    rw [hr] at hc
    rcases List.mem_cons.mp hc with rfl | hc
    · exact .inl rfl
    · exact .inr (digits_all h2 c hc)
  · rw [figs_pos hn] at h2
    exact .inr (digits_all h2 c hc)
/-- int(z) of figures -/
theorem s_cF {K : PySem.W.Frag} {H : Hp} {Q : VK} {z : Str} (h1 : (figsOf z).cps.toList ≠ []) (h2 : (figsOf z).cps.toList.all isDig = true) (h3 : (figsOf z).length ≤ 4000) (hz : z.length ≤ sizeLine)
    (hk : PySem.W.nsIn K cStatics "sys.int_max_str_digits" = some none) (h : Q (.int (valOf z)) H) : rIntU K [.str z] H Q := by
  have hr := read_figs h1 h2 h3
  by_cases hl : z.length ≤ 640
  · exact s_cT hr hl h
  · refine .inr (.inr ⟨z, _, rfl, hr, hk, fun q => hl ?_, hz, h⟩)
    obtain ⟨e1, e2⟩ := numText_signs (figs_sign h2)
    have : numSeenOf z = z.cps.toList := by first | exact e2 | exact e1
    rw [this, len_codes] at q
    exact q
/-! the text of so many nines -/
theorem repS_codes (c n : Nat) : (repS ⟨#[c]⟩ n).cps.toList = List.replicate n c := by
  have h : ∀ (k : Nat) (a : Array Nat), ((List.replicate k #[c]).foldl (· ++ ·) a).toList = a.toList ++ List.replicate k c := by
    intro k
    induction k with
    | zero => intro a; simp
    | succ k ih => intro a; rw [List.replicate_succ, List.foldl_cons, ih]; simp [List.replicate_succ]
  show ((List.replicate n #[c]).foldl (· ++ ·) #[]).toList = _
  rw [h]; simp
theorem nines_val (n : Nat) : digitsVal (List.replicate n 57) + 1 = 10 ^ n := by
  induction n with
  | zero => rfl
  | succ n ih => rw [List.replicate_succ', val_snoc, Nat.pow_succ]; omega
end L3
end
section
namespace L3
open PySem PySem.Spec PyProof.Rows L2 LamX
/-! ## what is no pen -/
theorem pen_heap (a c : Addr) (n : Nat) : ∃ h : Heap, (∃ (spot rest : Int) (t u : Tok) (k : Nat), h.get? a = some { cls := .type "list", data := .seq #[.ref c, .int spot t, .int rest u] k } ∧ 0 ≤ spot ∧ spot ≤ n) ∧
    ∀ b o, h.get? b = some o → o.cls = .type "list" ∧ ∀ vs, o.data ≠ .fields vs := by
  let ob : Obj := { cls := .type "list", data := .seq #[.ref c, .int 0 0, .int 0 0] 0 }
  refine ⟨{ objs := Array.replicate (a + 1) ob }, ⟨0, 0, 0, 0, 0, ?_, by decide, by omega⟩, fun b o e => ?_⟩
  · unfold Heap.get?
    have : (Array.replicate (a + 1) ob)[a]? = some ob := by simp
    show (match (Array.replicate (a + 1) ob)[a]? with | some ⟨_, _, .freed, _⟩ => none | o => o) = _
    rw [this]
  · unfold Heap.get? at e
    have q : (Array.replicate (a + 1) ob)[b]? = none ∨ (Array.replicate (a + 1) ob)[b]? = some ob := by
      by_cases h : b < a + 1
      · right; simp [h]
      · left; exact Array.getElem?_eq_none (by rw [Array.size_replicate]; exact Nat.le_of_not_lt h)
    change (match (Array.replicate (a + 1) ob)[b]? with | some ⟨_, _, .freed, _⟩ => none | o => o) = some o at e
    rcases q with q | q
    · rw [q] at e; cases e
    · rw [q] at e; cases e
      exact ⟨rfl, fun vs z => nomatch z⟩
theorem fnV_pen {f a c : Addr} {n : Nat} : FnV f ≠ PenO a c n := fun e => by
  unfold FnV PenO at e
  injection e with e
  obtain ⟨h, h1, h2⟩ := pen_heap a c n
  rw [← congrFun e h] at h1
  obtain ⟨o, g1, g2⟩ := h1
  have := (h2 _ _ g1).1
  rw [g2] at this
  exact absurd this (by decide)
theorem codeO_pen {k a c : Addr} {n : Nat} {q : Str} : CodeO k q ≠ PenO a c n := fun e => by
  unfold CodeO PenO at e
  injection e with e
  obtain ⟨h, h1, h2⟩ := pen_heap a c n
  rw [← congrFun e h] at h1
  obtain ⟨o, vs, _, g1, g2, _⟩ := h1
  exact (h2 _ _ g1).2 vs g2
/-- the pen stands, so do the tables -/
structure Wo (T : List (Addr × Str)) (H : Hp) (a : Addr) (n : Nat) : Prop where
  pen : Pen H a n
  tabs : Tabs T H
/-- an object that is told otherwise than a pen does not lie at the pen's place -/
theorem Pen.ne {H : Hp} {a : Addr} {n : Nat} (p : Pen H a n) {b : Addr} {o : HO} (h : H b = some o) (d : ∀ c n, o ≠ PenO a c n) : b ≠ a := fun z => by
  obtain ⟨c, ns, ha, _⟩ := p
  rw [z, ha] at h
  exact d c n (Option.some.inj h).symm
theorem Wo.keep {T : List (Addr × Str)} {H H' : Hp} {a : Addr} {n m : Nat} (w : Wo T H a n) (p : Pen H' a m) (k : ∀ b o, b ≠ a → H b = some o → H' b = some o) : Wo T H' a m := by
  refine ⟨p, fun t ht => ?_⟩
  obtain ⟨ps, h1, h2, h3⟩ := w.tabs t ht
  refine ⟨ps, k _ _ (w.pen.ne h1 fun c n z => by unfold PenO at z; cases z) h1, h2, fun pos cv hc => ?_⟩
  obtain ⟨c, e1, e2⟩ := h3 pos cv hc
  exact ⟨c, e1, k _ _ (w.pen.ne e2 fun _ _ => codeO_pen) e2⟩
theorem Wo.ex {T : List (Addr × Str)} {H H' : Hp} {a : Addr} {n : Nat} (w : Wo T H a n) (k : Ex H H') : Wo T H' a n := by
  obtain ⟨c, ns, h1, h2, h3⟩ := w.pen
  exact ⟨⟨c, ns, k _ _ h1, k _ _ h2, h3⟩, w.tabs.ext k⟩
theorem Xt.refl (a : Addr) (H : Hp) : Xt a H H := fun _ _ _ _ h => h
theorem Xt.trans {a : Addr} {H H1 H2 : Hp} (x : Xt a H H1) (y : Xt a H1 H2) : Xt a H H2 := fun b o h1 h2 h => y b o h1 h2 (x b o h1 h2 h)
theorem Xt.of {a : Addr} {H H' : Hp} (k : ∀ b o, b ≠ a → H b = some o → H' b = some o) : Xt a H H' := fun b o h _ e => k b o h e
theorem Ex.xt {a : Addr} {H H' : Hp} (k : Ex H H') : Xt a H H' := fun b o _ _ e => k b o e
/-! ## the pen is made -/
def tPenNew (t : TS) : TS := fun D σ H => t { D with rt := fun v H' => ∃ p c rest ns, v = .ref p ∧ H' p = some (.lst [.ref c, .int 0, .int rest]) ∧ H' c = some (.lst ((ns : List Int).map V.int)) ∧ c ≠ p ∧ D.rt v (upd (upd H' p (PenO p c 0)) c (ScO c ns)) } σ H
theorem pss_penNew {X : Cx} {sts : List Stmt} {t : TS} (h : PSs X sts t) : PSs X sts (tPenNew t) := by
  refine ⟨fun pins s σ H D I hw => thn (h.run pins s σ H _ I hw) fun f s' q => ?_⟩
  match f, q with
  | .next, q => exact q
  | .brk, q => exact q
  | .cont, q => exact q
  | .ret u, q =>
    obtain ⟨v, σ', H', I', r, p, c, rest, ns, e, hp, hc, hn, z⟩ := q
    exact ⟨v, σ', _, Inv.scClose (Inv.penClose I' hp (Int.le_refl 0) (Int.le_refl 0)) (by rw [upd_ne hn]; exact hc), r, z⟩
def spPen (K : PySem.W.Frag) : Sp := fun vs H Q _ => ∃ a ns, vs = [.ref a] ∧ SqL K H a (ns.map V.int) ∧ (ns : List Int).length ≤ 63 ∧ ∀ p H', H p = none → Ex H H' → Pen H' p 0 → Q (.ref p) H'
def spPick : Sp := fun vs H Q _ => ∃ a l n xs, vs = [.ref a, .ref l] ∧ H l = some (.lst xs) ∧ xs ≠ [] ∧ xs.length ≤ 100000 ∧ Pen H a n ∧ n < lim ∧
  ∀ v H', v ∈ xs → Pen H' a (n + 1) → (∀ b o, b ≠ a → H b = some o → H' b = some o) → Q v H'
end L3
end
section
namespace L3
open PySem PySem.Spec PyProof.Rows L2
variable {K : PySem.W.Frag} {σ : L2.St} {H : Hp} {te : TE} {Q : VK}
/-- a comprehension over a range whose turns draw -/
theorem lcPen {a : Addr} {n N q j : Nat} {vs : List Nat} (p : V → Prop) (hp : Pen H a n) (hN : N < sizeLine) (hw : ∀ x, wipe ((wipe σ vs).set j (some x)) vs = wipe σ vs)
    (he : ∀ (i : Nat) (H' : Hp) (m : Nat) (R : VK), i < N → (∀ b o, b ≠ a → H b = some o → H' b = some o) → Pen H' a m → m ≤ n + q * i →
      (∀ y H2 m2, (∀ b o, b ≠ a → H' b = some o → H2 b = some o) → Pen H2 a m2 → m2 ≤ m + q → p y → R y H2) → te ((wipe σ vs).set j (some (.int (0 + i)))) H' R)
    (k : ∀ D H2 m ys, H D = none → (∀ b o, b ≠ a → H b = some o → H2 b = some o) → Pen H2 a m → m ≤ n + q * N → ys.length = N → (∀ y ∈ ys, p y) → H2 D = some (.lst ys) → Q (.ref D) H2) :
    LC (Itr 0 N) (gName j) tYes te vs σ H Q := by
  intro Dl hD
  have hDa : Dl ≠ a := by
    rintro rfl
    obtain ⟨c, ns, z, _⟩ := hp
    rw [hD] at z; cases z
  have pu : ∀ {H : Hp} {m : Nat} {o : HO}, Pen H a m → H Dl = none ∨ (∃ xs, H Dl = some (.lst xs)) → Pen (upd H Dl o) a m := by
    rintro H m o ⟨c, ns, z1, z2, z3⟩ hd
    refine ⟨c, ns, by rw [upd_ne (Ne.symm hDa)]; exact z1, ?_, z3⟩
    rw [upd_ne ?_]; exact z2
    rintro rfl
    rcases hd with hd | ⟨xs, hd⟩ <;> rw [hd] at z2 <;> (try unfold ScO at z2) <;> cases z2
  refine lc_it walk_range (fun i H' => (∃ m, Pen H' a m ∧ m ≤ n + q * i) ∧ (∀ b o, b ≠ a → H b = some o → H' b = some o) ∧ ∃ ys, H' Dl = some (.lst ys) ∧ ys.length = i ∧ ∀ y ∈ ys, p y)
    ⟨⟨n, pu hp (.inl hD), by omega⟩, fun b o _ hb => by rw [upd_ne (ne_of_none hb hD)]; exact hb, [], upd_same, rfl, by simp⟩ (fun _ _ _ _ => trivial) ?_ ?_
  · rintro i x H1 H2 hi ⟨⟨m, p1, p2⟩, k1, ys, l1, l2, l3⟩ ⟨rfl, rfl⟩
    refine ⟨hw _, ?_⟩
    refine he i H2 m _ hi k1 p1 p2 fun y H3 m3 k3 p3 hm hy => ?_
    have l4 := k3 _ _ hDa l1
    refine ⟨ys, l4, by omega, ⟨m3, pu p3 (.inr ⟨_, l4⟩), by rw [Nat.mul_succ]; omega⟩, fun b o hb ho => ?_, ys ++ [y], upd_same, by simp [l2], ?_⟩
    · rw [upd_ne (ne_of_none ho hD)]; exact k3 _ _ hb (k1 _ _ hb ho)
    · intro z hz
      rcases List.mem_append.mp hz with hz | hz
      · exact l3 z hz
      · rw [List.mem_singleton.mp hz]; exact hy
  · rintro H1 ⟨⟨m, p1, p2⟩, k1, ys, l1, l2, l3⟩
    exact k _ _ _ _ hD k1 p1 p2 l2 l3 l1
end L3
end
section
namespace L3
open PySem PySem.Spec PyProof.Rows L2
variable {K : PySem.W.Frag} {σ : L2.St} {H : Hp} {te : TE} {Q : VK}
/-! repr of a list of plain values -/
def flatD : V → PyData
  | .int i => .int i
  | .bl b => .bool b
  | .str z => .str z
  | _ => .none
def fitF : V → Bool
  | .int i => decide (i.natAbs.log2 < 1920)
  | .bl _ => true
  | .non => true
  | _ => false
theorem len_app (a b : Str) : (a ++ b).length = a.length + b.length := by
  rw [← len_codes, ← len_codes, ← len_codes]
  show (a.cps ++ b.cps).toList.length = _
  rw [Array.toList_append, List.length_append]
theorem textFrom_ub : ∀ (ts : List Str) (k : Nat) (acc : Str), (textFrom k acc ts).length ≤ acc.length + (ts.map fun t => t.length + 2).sum
  | [], k, acc => Nat.le_refl _
  | t :: r, k, acc => by
    have := textFrom_ub r (k + 1) (acc ++ (if k > 0 then ", " else "" : String) ++ t)
    have h2 : (Str.ofString (if k > 0 then ", " else "" : String)).length ≤ 2 := by split <;> decide
    rw [len_app, len_app] at this
    rw [List.map_cons, List.sum_cons]
    exact Nat.le_trans this (by omega)
theorem listText_ub (ts : List Str) : (listText ts).length ≤ 2 + (ts.map fun t => t.length + 2).sum := by
  unfold listText
  rw [len_app]
  have := textFrom_ub ts 0 "["
  have e1 : (Str.ofString "[").length = 1 := by decide
  have e2 : (Str.ofString "]").length = 1 := by decide
  omega
theorem strOf_len {i : Int} {k : Nat} (hk : 0 < k) (h : i.natAbs < 10 ^ k) : (strOf i).length ≤ k + 1 := by
  by_cases h0 : 0 ≤ i
  · obtain ⟨m, rfl⟩ := Int.eq_ofNat_of_zero_le h0
    have e := strOf_nat m
    have hl := TL.numL_len (n := m) (k := k) hk (by simpa using h)
    rw [← len_codes, e]; omega
  · obtain ⟨m, rfl⟩ : ∃ m : Nat, i = -(m : Int) := ⟨i.natAbs, by omega⟩
    have e := strOf_neg (m := m) (by omega)
    have hl := TL.numL_len (n := m) (k := k) hk (by simpa using h)
    rw [← len_codes, e, List.length_cons]; omega
theorem log_big {n : Nat} (h : n.log2 < 1920) : n < 10 ^ 1000 := by
  by_cases h0 : n = 0
  · rw [h0]; exact Nat.pow_pos (by decide)
  · rw [Nat.log2_lt h0] at h
    refine Nat.lt_of_lt_of_le h ?_
    have e : 2 ^ 1920 = (2 ^ 96) ^ 20 := by rw [← Nat.pow_mul]
    have e' : 10 ^ 1000 = (10 ^ 50) ^ 20 := by rw [← Nat.pow_mul]
    rw [e, e']
    exact Nat.pow_le_pow_left (by decide) 20
theorem fit_shown {x : V} (h : fitF x = true) : (flatD x).shown.length ≤ 1001 := by
  cases x with
  | int i => exact strOf_len (by decide) (log_big (of_decide_eq_true h))
  | bl b => show (if b then Str.ofString "True" else "False").length ≤ _; cases b <;> decide
  | non => show (Str.ofString "None").length ≤ _; decide
  | _ => cases h
theorem fit_list : ∀ xs : List V, xs.all fitF = true → (PyData.shownAll (xs.map flatD)).length = xs.length ∧ ((PyData.shownAll (xs.map flatD)).map fun t => t.length + 2).sum ≤ 1003 * xs.length ∧ PyData.showableAll (xs.map flatD) = true ∧ PyData.depthAll (xs.map flatD) ≤ 1 ∧ DpAll K H xs (xs.map flatD)
  | [], _ => ⟨rfl, Nat.le_refl _, rfl, by decide, .nil⟩
  | x :: r, h => by
    rw [List.all_cons, Bool.and_eq_true] at h
    obtain ⟨h1, h2, h3, h4, h5⟩ := fit_list r h.2
    have hs := fit_shown h.1
    refine ⟨by show _ + 1 = _ + 1; rw [h1], ?_, ?_, ?_, ?_⟩
    · have e : ((PyData.shownAll ((x :: r).map flatD)).map fun t => t.length + 2).sum = ((flatD x).shown.length + 2) + ((PyData.shownAll (r.map flatD)).map fun t => t.length + 2).sum := by
        show List.sum (_ :: _) = _
        rw [List.sum_cons]
      rw [e, List.length_cons]
      omega
    · show ((flatD x).showable && _) = true
      rw [h3, Bool.and_true]
      cases x with
      | int i => exact h.1
      | bl b => rfl
      | non => rfl
      | _ => cases h.1
    · show max (flatD x).depth _ ≤ 1
      refine Nat.max_le.mpr ⟨?_, h4⟩
      cases x with
      | int i => exact Nat.zero_le _
      | bl b => exact Nat.zero_le _
      | non => exact Nat.zero_le _
      | _ => cases h.1
    · refine .cons ?_ h5
      cases x with
      | int i => exact .int i
      | bl b => exact .bl b
      | non => exact .non
      | _ => cases h.1
theorem s_reprF {p : Addr} {xs : List V} (hp : H p = some (.lst xs)) (hf : xs.all fitF = true) (hn : xs.length ≤ 1000) (h : Q (.str (PyData.list (xs.map flatD)).shown) H) : rRepr K [.ref p] H Q := by
  obtain ⟨h1, h2, h3, h4, h5⟩ := fit_list (K := K) (H := H) xs hf
  refine s_repr (.lst (.inl (.inl hp)) h5) h3 (by show _ + 1 ≤ _; omega) ?_ h
  show (listText (PyData.shownAll (xs.map flatD))).length ≤ _
  rw [sizeLine_eq]
  have := listText_ub (PyData.shownAll (xs.map flatD))
  omega
end L3
end
section
namespace K02
open PySem PySem.Spec PyProof.Rows L2 L3 LamX
def topS (i : Nat) : Stmt := PySem.Challenge.pw_latechunks_k02_looks_at_any_values.main.body.getD i (.Pass ⟨0, 0, 0, 0⟩)
/-! ## what the top has left -/
def wordsV : List V := [.str "cost", .str "fee", .str "none", .str "order", .str "ready", .str "self", .str "chunks", .str "crew", .str "late", .str "at"]
abbrev signsT : Str := "abcdefghijklmnopqrstuvwxyz"
structure Txt (K : PySem.W.Frag) (mg : Str → Option Value) (aW C : Addr) : Prop where
  b_isinstance : mg "isinstance" = none
  b_int : mg "int" = none
  b_bool : mg "bool" = none
  b_str : mg "str" = none
  b_len : mg "len" = none
  b_abs : mg "abs" = none
  b_all : mg "all" = none
  b_list : mg "list" = none
  b_range : mg "range" = none
  b_repr : mg "repr" = none
  g_WORDS : ∃ u, mg "WORDS" = some u ∧ RelV (.ref aW) u
  words : ∀ H, SqT K H aW wordsV
  g_SIGNS : ∃ u, mg "SIGNS" = some u ∧ RelV (.str signsT) u
  g_MOST_SIZE : ∃ u, mg "MOST_SIZE" = some u ∧ RelV (.int (10 ^ 30)) u
  g_MOST_FIGURES : ∃ u, mg "MOST_FIGURES" = some u ∧ RelV (.int 4000) u
  digits : PySem.W.nsIn K cStatics "sys.int_max_str_digits" = some none
  cl : Cls K C
  nO : NoAttr K C "over"
  nU : NoAttr K C "under"
/-- a value whose kind is known -/
inductive Vk (K : PySem.W.Frag) (H : Hp) : V → Prop where
  | int (i : Int) : Vk K H (.int i)
  | bl (b : Bool) : Vk K H (.bl b)
  | str (z : Str) : z.length ≤ 100000 → z.cps.toList.all (fun c => decide (c < 1114112)) = true → Vk K H (.str z)
  | odd {x : V} {t : Value} : TyA K H x t → PySem.W.kitOne K t (.type "int") = some false → PySem.W.kitOne K t (.type "bool") = some false → PySem.W.kitOne K t (.type "str") = some false → (∀ i, x ≠ .int i) → (∀ i, x ≠ .str i) → Vk K H x
def isI : V → Bool
  | .int _ => true
  | _ => false
def isS : V → Bool
  | .str _ => true
  | _ => false
theorem odd_isI {x : V} (h : ∀ i, x ≠ .int i) : isI x = false := by
  cases x <;> first | rfl | exact absurd rfl (h _)
theorem odd_isS {x : V} (h : ∀ i, x ≠ .str i) : isS x = false := by
  cases x <;> first | rfl | exact absurd rfl (h _)
theorem ty_int {K : PySem.W.Frag} {H : Hp} (i : Int) : TyA K H (.int i) (.type "int") := .x (.base (.int i))
theorem ty_bl {K : PySem.W.Frag} {H : Hp} (i : Bool) : TyA K H (.bl i) (.type "bool") := .x (.base (.bl i))
theorem ty_str {K : PySem.W.Frag} {H : Hp} (i : Str) : TyA K H (.str i) (.type "str") := .x (.base (.str i))
abbrev s_is_integer : Stmt := topS 5
abbrev names_is_integer : List Str := ["value"]
theorem sc_is_integer : FnScope ["value"] ["value"] (defScope s_is_integer) := ⟨rfl, rfl, rfl, by decide +kernel, rfl, by decide +kernel, by decide +kernel⟩
abbrev s_is_within : Stmt := topS 6
abbrev names_is_within : List Str := ["value", "least", "most"]
theorem sc_is_within : FnScope ["value", "least", "most"] ["value", "least", "most"] (defScope s_is_within) := ⟨rfl, rfl, rfl, by decide +kernel, rfl, by decide +kernel, by decide +kernel⟩
abbrev s_is_size : Stmt := topS 7
abbrev names_is_size : List Str := ["value"]
theorem sc_is_size : FnScope ["value"] ["value"] (defScope s_is_size) := ⟨rfl, rfl, rfl, by decide +kernel, rfl, by decide +kernel, by decide +kernel⟩
abbrev s_is_name : Stmt := topS 8
abbrev names_is_name : List Str := ["value", "sign"]
theorem sc_is_name : FnScope ["value", "sign"] ["value"] (defScope s_is_name) := ⟨rfl, rfl, rfl, by decide +kernel, rfl, by decide +kernel, by decide +kernel⟩
abbrev s_is_figures : Stmt := topS 16
abbrev names_is_figures : List Str := ["word", "figures", "sign"]
theorem sc_is_figures : FnScope ["word", "figures", "sign"] ["word"] (defScope s_is_figures) := ⟨rfl, rfl, rfl, by decide +kernel, rfl, by decide +kernel, by decide +kernel⟩
abbrev s_number_of : Stmt := topS 15
abbrev names_number_of : List Str := ["word", "least", "most", "found"]
theorem sc_number_of : FnScope ["word", "least", "most", "found"] ["word", "least", "most"] (defScope s_number_of) := ⟨rfl, rfl, rfl, by decide +kernel, rfl, by decide +kernel, by decide +kernel⟩
abbrev s_common : Stmt := topS 18
abbrev names_common : List Str := ["one", "other"]
theorem sc_common : FnScope ["one", "other"] ["one", "other"] (defScope s_common) := ⟨rfl, rfl, rfl, by decide +kernel, rfl, by decide +kernel, by decide +kernel⟩
abbrev s_Ratio___init__ : Stmt := inClass (topS 19) 0
abbrev names_Ratio___init__ : List Str := ["self", "over", "under", "divisor", "sign"]
theorem sc_Ratio___init__ : FnScope ["self", "over", "under", "divisor", "sign"] ["self", "over", "under"] (defScope s_Ratio___init__) := ⟨rfl, rfl, rfl, by decide +kernel, rfl, by decide +kernel, by decide +kernel⟩
section
variable {P : Program} {w : World} {K : PySem.W.Frag} {mg : Str → Option Value} {base : Heap} {aW C : Addr}
def spIsInteger (K : PySem.W.Frag) : Sp := fun vs H Q _ => ∃ x, vs = [x] ∧ Vk K H x ∧ Q (.bl (isI x)) H
theorem ok_is_integer {f : Addr} {fd : FuncData} (F : Fun K "is_integer" "is_integer" s_is_integer f fd) (T : Txt K mg aW C) : FnG P w K mg base CX0 1 f fd ["value"] (spIsInteger K) := by
  refine funG F sc_is_integer (fun vs H Q E h => ?_) (fun cd A fr s H vs Q E hr hg h => ?_)
  · obtain ⟨x, rfl, _⟩ := h; rfl
  · obtain ⟨x, rfl, hk, k⟩ := h
    refine ⟨_, (pss_one (ps_ret (pe_and (pe_callB (KX.callIsi (K := K)) (by rfl) T.b_isinstance (by decide +kernel) (pa_cons (pv 0) (pa_cons (pe_bltn (v := .ty "int") (u := .type "int") (by rfl) T.b_int (by decide +kernel) rfl) pa_nil))) (pe_one (pe_not (pe_callB (KX.callIsi (K := K)) (by rfl) T.b_isinstance (by decide +kernel) (pa_cons (pv 0) (pa_cons (pe_bltn (v := .ty "bool") (u := .type "bool") (by rfl) T.b_bool (by decide +kernel) rfl) pa_nil)))))))), ?_⟩
    tm_at "s"
    cases hk with
    | int i =>
      refine s_isiT (ty_int i) (b := true) (kit_ty (by decide +kernel)) ?_
      tm_at "s"
      refine s_isiT (ty_int i) (b := false) (kit_ty (by decide +kernel)) ?_
      tm_at "s"
      exact k
    | bl b =>
      refine s_isiT (ty_bl b) (b := true) (kit_ty (by decide +kernel)) ?_
      tm_at "s"
      refine s_isiT (ty_bl b) (b := true) (kit_ty (by decide +kernel)) ?_
      tm_at "s"
      exact k
    | str z hz hzc =>
      refine s_isiT (ty_str z) (b := false) (kit_ty (by decide +kernel)) ?_
      tm_at "s"
      exact k
    | odd ty h1 h2 h3 h4 h5 =>
      refine s_isiT ty h1 ?_
      tm_at "s"
      rw [odd_isI h4] at k
      exact k
def inB (x : V) (a b : Int) : Bool := match x with
  | .int i => decide (a ≤ i) && decide (i ≤ b)
  | _ => false
def spIsWithin (K : PySem.W.Frag) : Sp := fun vs H Q _ => ∃ x a b, vs = [x, .int a, .int b] ∧ Vk K H x ∧ Q (.bl (inB x a b)) H
theorem ok_is_within {f : Addr} {fd : FuncData} (F : Fun K "is_within" "is_within" s_is_within f fd) (T : Txt K mg aW C) (c_is_integer : Fn P w K mg base CX0 1 "is_integer" ["value"] (spIsInteger K)) :
    FnG P w K mg base CX0 2 f fd ["value", "least", "most"] (spIsWithin K) := by
  refine funG F sc_is_within (fun vs H Q E h => ?_) (fun cd A fr s H vs Q E hr hg h => ?_)
  · obtain ⟨x, a, b, rfl, _⟩ := h; rfl
  · obtain ⟨x, a, b, rfl, hk, k⟩ := h
    refine ⟨_, (pss_one (ps_ret (pe_and (pe_f c_is_integer hr hg pass0 (pa_cons (pv 0) pa_nil)) (pe_one (pe_chain op_le op_le (pv 1) (pv 0) (pv 2)))))), ?_⟩
    tm_at "s"
    refine ⟨x, rfl, hk, ?_⟩
    tm_at "s"
    cases x with
    | int i =>
      refine iteT ?_
      tm_at "s"
      refine iteB (fun h1 => ?_) (fun h1 => ?_)
      · tm_at "s"
        change Q (.bl (decide (a ≤ i) && decide (i ≤ b))) H at k
        rw [h1, Bool.true_and] at k
        exact k
      · change Q (.bl (decide (a ≤ i) && decide (i ≤ b))) H at k
        rw [h1, Bool.false_and] at k
        exact k
    | _ => exact iteF k
def spIsSize (K : PySem.W.Frag) : Sp := fun vs H Q _ => ∃ x, vs = [x] ∧ Vk K H x ∧ Q (.bl (inB x 1 (10 ^ 30))) H
theorem ok_is_size {f : Addr} {fd : FuncData} (F : Fun K "is_size" "is_size" s_is_size f fd) (T : Txt K mg aW C) (c_is_within : Fn P w K mg base CX0 2 "is_within" ["value", "least", "most"] (spIsWithin K)) :
    FnG P w K mg base CX0 3 f fd ["value"] (spIsSize K) := by
  refine funG F sc_is_size (fun vs H Q E h => ?_) (fun cd A fr s H vs Q E hr hg h => ?_)
  · obtain ⟨x, rfl, _⟩ := h; rfl
  · obtain ⟨x, rfl, hk, k⟩ := h
    refine ⟨_, (pss_one (ps_ret (pe_f c_is_within hr hg pass0 (pa_cons (pv 0) (pa_cons pe_int (pa_cons (C8.pe_gc (by rfl) T.g_MOST_SIZE) pa_nil)))))), ?_⟩
    tm_at "s"
    exact ⟨x, 1, 10 ^ 30, rfl, hk, k⟩
def nameB (z : Str) : Bool := (decide (1 ≤ (z.length : Int)) && decide ((z.length : Int) ≤ 8)) && (!inV (.str z) wordsV && z.cps.toList.all fun c => decide (c ∈ signsT.cps.toList))
def nmB : V → Bool
  | .str z => nameB z
  | _ => false
theorem odd_nmB {x : V} (h : ∀ i, x ≠ .str i) : nmB x = false := by
  cases x <;> first | rfl | exact absurd rfl (h _)
theorem map_bl {α : Type} (f : α → Bool) (l : List α) : (l.map fun c => V.bl (f c)) = (l.map f).map V.bl := by rw [List.map_map]; rfl
theorem all_map {α : Type} (f : α → Bool) (l : List α) : (l.map f).all id = l.all f := by rw [List.all_map]; rfl
theorem filt_true {α : Type} (l : List α) : l.filter (fun _ => true) = l := List.filter_eq_self.mpr fun _ _ => rfl
theorem sz_of {n : Nat} (h : n ≤ 100000) : n < sizeLine := Nat.lt_of_le_of_lt h (by decide)
def spIsName (K : PySem.W.Frag) : Sp := fun vs H Q _ => ∃ x, vs = [x] ∧ Vk K H x ∧ ∀ H', Ex H H' → Q (.bl (nmB x)) H'
theorem ok_is_name {f : Addr} {fd : FuncData} (F : Fun K "is_name" "is_name" s_is_name f fd) (T : Txt K mg aW C) : FnG P w K mg base CX0 1 f fd ["value"] (spIsName K) := by
  refine funG F sc_is_name (fun vs H Q E h => ?_) (fun cd A fr s H vs Q E hr hg h => ?_)
  · obtain ⟨x, rfl, _⟩ := h; rfl
  · obtain ⟨x, rfl, hk, k⟩ := h
    refine ⟨_, (pss_cons (ps_if (PW.pt (pw_or (pt_not (pt_val (pe_callB (KX.callIsi (K := K)) (by rfl) T.b_isinstance (by decide +kernel) (pa_cons (pv 0) (pa_cons (pe_bltn (v := .ty "str") (u := .type "str") (by rfl) T.b_str (by decide +kernel) rfl) pa_nil))))) (pw_or (pt_not (pt_chain op_le op_le pe_int (pe_callB (KX.callLen (K := K)) (by rfl) T.b_len (by decide +kernel) (pa_cons (pv 0) pa_nil)) pe_int)) (pw_or1 (pt_cmpR (KX.opIn (K := K)) (pv 0) (C8.pe_gc (by rfl) T.g_WORDS) (by rfl)))))) (pss_one (ps_ret pe_bl)) pss_nil)
      (pss_one (ps_ret (pe_callB (KX.callAll (K := K) rfl rfl) (by rfl) T.b_all (by decide +kernel) (pa_cons (pe_lc (own := [("sign", 1)]) (g := gName 1) (tt := tYes) (by rfl) sc_is_name.nd (pi_str (pv 0)) (blkOk_by (own := [("sign", 1)]) (N := names_is_name) (sc := defScope s_is_name) (by decide +kernel)) (fun _ _ _ _ _ => pg_name (i := 1) sc_is_name.nd rfl (Or.inl rfl)) (fun _ _ _ _ _ => pts_nil) (fun _ _ _ _ _ => (pe_cmpR (KX.opIn (K := K)) (pv 1) (C8.pe_gc (by rfl) T.g_SIGNS) (by rfl)))) pa_nil))))), ?_⟩
    tm_at "s"
    cases hk with
    | str z hz hzc =>
      refine s_isiT (ty_str z) (b := true) (kit_ty (by decide +kernel)) ?_
      tm_at "s"
      refine s_lenS (Nat.le_of_lt (sz_of hz)) ?_
      tm_at "s"
      have fin : ∀ b : Bool, nameB z = b → ∀ H', Ex H H' → Q (.bl b) H' := fun b e => by rw [← e]; exact k
      refine iteB (fun h1 => ?_) (fun h1 => ?_)
      · tm_at "s"
        refine iteB (fun h2 => ?_) (fun h2 => ?_)
        · tm_at "s"
          refine fin false ?_ H (Ex.refl H)
          unfold nameB
          have : decide ((z.length : Int) ≤ 8) = false := by simpa using h2
          rw [this, Bool.and_false, Bool.false_and]
        · tm_at "s"
          refine s_inT (T.words H) rfl (by decide +kernel) ?_
          tm_at "s"
          have h3 : decide ((z.length : Int) ≤ 8) = true := by simpa using h2
          refine iteB (fun h4 => ?_) (fun h4 => ?_)
          · tm_at "s"
            refine fin false ?_ H (Ex.refl H)
            unfold nameB
            rw [h4, Bool.not_true, Bool.false_and, Bool.and_false]
          · tm_at "s"
            refine lcStr (fun _ => true) (fun c => .bl (decide (c ∈ signsT.cps.toList))) (sz_of hz) (fun _ => rfl) (fun c H' R h => h) (fun c H' R _ h => ?_) fun q H2 hq e2 h2 => ?_
            · tm_at "s"
              exact h
            · rw [filt_true, map_bl] at h2
              tm_at "s"
              refine s_all h2 ?_
              refine fin _ ?_ H2 e2
              unfold nameB
              rw [h1, h3, h4, all_map]
              rfl
      · tm_at "s"
        refine fin false ?_ H (Ex.refl H)
        unfold nameB
        rw [h1, Bool.false_and, Bool.false_and]
    | int i =>
      refine s_isiT (ty_int i) (b := false) (kit_ty (by decide +kernel)) ?_
      tm_at "s"
      exact k H (Ex.refl H)
    | bl i =>
      refine s_isiT (ty_bl i) (b := false) (kit_ty (by decide +kernel)) ?_
      tm_at "s"
      exact k H (Ex.refl H)
    | odd ty h1 h2 h3 h4 h5 =>
      refine s_isiT ty h3 ?_
      tm_at "s"
      rw [odd_nmB h5] at k
      exact k H (Ex.refl H)
def fgB : V → Bool
  | .str z => figB z
  | _ => false
theorem odd_fgB {x : V} (h : ∀ i, x ≠ .str i) : fgB x = false := by
  cases x <;> first | rfl | exact absurd rfl (h _)
def spIsFigures (K : PySem.W.Frag) : Sp := fun vs H Q _ => ∃ x, vs = [x] ∧ Vk K H x ∧ ∀ H', Ex H H' → Q (.bl (fgB x)) H'
theorem ok_is_figures {f : Addr} {fd : FuncData} (F : Fun K "is_figures" "is_figures" s_is_figures f fd) (T : Txt K mg aW C) : FnG P w K mg base CX0 1 f fd ["word"] (spIsFigures K) := by
  refine funG F sc_is_figures (fun vs H Q E h => ?_) (fun cd A fr s H vs Q E hr hg h => ?_)
  · obtain ⟨x, rfl, _⟩ := h; rfl
  · obtain ⟨x, rfl, hk, k⟩ := h
    refine ⟨_, (pss_cons (ps_if (pt_not (pt_val (pe_callB (KX.callIsi (K := K)) (by rfl) T.b_isinstance (by decide +kernel) (pa_cons (pv 0) (pa_cons (pe_bltn (v := .ty "str") (u := .type "str") (by rfl) T.b_str (by decide +kernel) rfl) pa_nil))))) (pss_one (ps_ret pe_bl)) pss_nil)
      (Evl.pss_cut (ps_set (i := 1) sc_is_figures.nd rfl (Or.inl rfl) (pe_ifExp (pt_cmpR (KX.eqU (K := K) rfl hr.units) (pe_slice (KX.slU (K := K)) (pv 0) po_none (po_some pe_int)) pe_str (nomark _)) (pe_slice (KX.slU (K := K)) (pv 0) (po_some pe_int) po_none) (pv 0)))
      (pss_cons (ps_if (PW.pt (pw_or (pt_not (pt_chain op_le op_le pe_int (pe_callB (KX.callLen (K := K)) (by rfl) T.b_len (by decide +kernel) (pa_cons (pv 1) pa_nil)) (C8.pe_gc (by rfl) T.g_MOST_FIGURES))) (pw_or1 (pt_not (pt_val (pe_callB (KX.callAll (K := K) rfl rfl) (by rfl) T.b_all (by decide +kernel) (pa_cons (pe_lc (own := [("sign", 2)]) (g := gName 2) (tt := tYes) (by rfl) sc_is_figures.nd (pi_str (pv 1)) (blkOk_by (own := [("sign", 2)]) (N := names_is_figures) (sc := defScope s_is_figures) (by decide +kernel)) (fun _ _ _ _ _ => pg_name (i := 2) sc_is_figures.nd rfl (Or.inl rfl)) (fun _ _ _ _ _ => pts_nil) (fun _ _ _ _ _ => (pe_cmpR (KX.opIn (K := K)) (pv 2) pe_str (by rfl)))) pa_nil))))))) (pss_one (ps_ret pe_bl)) pss_nil)
      (pss_one (ps_ret (pe_or (pe_cmpR (KX.eqU (K := K) rfl hr.units) (pv 0) pe_str (nomark _)) (pe_one (pe_cmpR (KX.neU (K := K) rfl hr.units) (pe_ix (KX.ixU (K := K)) (pv 1) pe_int (fun _ _ => rfl)) pe_str (nomark _))))))))), ?_⟩
    tm_at "s"
    cases hk with
    | str z hz hzc =>
      have hzz : z.length ≤ sizeLine := Nat.le_of_lt (sz_of hz)
      refine s_isiT (ty_str z) (b := true) (kit_ty (by decide +kernel)) ?_
      tm_at "s"
      refine s_cut (M := fun σ' H' => σ' = [some (.str z), some (.str (figsOf z)), none] ∧ H' = H) ?_ ?_
      · tm_at "s"
        refine s_slS hzz ?_
        tm_at "s"
        refine iteB (fun h1 => ?_) (fun h1 => ?_)
        · tm_at "s"
          refine s_slS hzz ?_
          refine ⟨?_, rfl⟩
          unfold figsOf
          rw [if_pos h1]
          rfl
        · tm_at "s"
          refine ⟨?_, rfl⟩
          unfold figsOf
          rw [h1, if_neg (by decide)]
          rfl
      · rintro σ' H' ⟨rfl, rfl⟩
        have hf := figs_len z
        have fin : ∀ b : Bool, figB z = b → ∀ H1, Ex H' H1 → Q (.bl b) H1 := fun b e => by rw [← e]; exact k
        tm_at "s"
        refine s_lenS (Nat.le_trans hf hzz) ?_
        tm_at "s"
        have no : (decide (1 ≤ ((figsOf z).length : Int)) && decide (((figsOf z).length : Int) ≤ 4000)) = false → Q (.bl false) H' := fun e => by
          refine fin false ?_ H' (Ex.refl H')
          unfold figB
          rw [e, Bool.false_and, Bool.false_and]
        refine iteB (fun h1 => ?_) (fun h1 => ?_)
        · tm_at "s"
          refine iteB (fun h2 => ?_) (fun h2 => ?_)
          · tm_at "s"
            refine no ?_
            have : decide (((figsOf z).length : Int) ≤ 4000) = false := by simpa using h2
            rw [this, Bool.and_false]
          · have h3 : decide (((figsOf z).length : Int) ≤ 4000) = true := by simpa using h2
            tm_at "s"
            refine lcStr (fun _ => true) (fun c => .bl (isDig c)) (Nat.lt_of_le_of_lt hf (sz_of hz)) (fun _ => rfl) (fun c H' R h => h) (fun c H' R _ h => ?_) fun q H2 hq e2 hl2 => ?_
            · tm_at "s"
              exact h
            · rw [filt_true, map_bl] at hl2
              tm_at "s"
              refine s_all hl2 ?_
              rw [all_map]
              tm_at "s"
              refine iteB (fun h4 => ?_) (fun h4 => ?_)
              · tm_at "s"
                refine fin false ?_ H2 e2
                unfold figB
                have : (figsOf z).cps.toList.all isDig = false := by simpa using h4
                rw [this, Bool.and_false, Bool.false_and]
              · have h5 : (figsOf z).cps.toList.all isDig = true := by simpa using h4
                tm_at "s"
                refine iteB (fun h6 => ?_) (fun h6 => ?_)
                · tm_at "s"
                  refine fin true ?_ H2 e2
                  unfold figB
                  rw [h1, h3, h5, h6]
                  rfl
                · tm_at "s"
                  have hpos : 0 < (figsOf z).cps.toList.length := by
                    have := of_decide_eq_true h1
                    have e : (figsOf z).length = (figsOf z).cps.toList.length := Array.length_toList.symm
                    omega
                  obtain ⟨c, r, hcr⟩ : ∃ c r, (figsOf z).cps.toList = c :: r := by
                    cases hq : (figsOf z).cps.toList with
                    | nil => rw [hq] at hpos; exact absurd hpos (by decide)
                    | cons c r => exact ⟨c, r, rfl⟩
                  refine s_iS (c := c) (Nat.le_trans hf hzz) (by rw [hcr, atI_int (by decide) (by show (0 : Int) < ((r.length + 1 : Nat) : Int); omega)]; rfl) ?_
                  tm_at "s"
                  refine fin _ ?_ H2 e2
                  unfold figB
                  rw [h1, h3, h5, h6, hcr]
                  have : decide ((⟨#[c]⟩ : Str) = "0") = decide ((c :: r).head? = some 48) := by
                    by_cases hc : c = 48
                    · subst hc; rfl
                    · rw [decide_eq_false, decide_eq_false]
                      · intro z; exact hc (Option.some.inj z)
                      · intro z
                        have z2 := congrArg (fun s : Str => s.cps.toList) z
                        have z3 : [c] = [48] := z2
                        exact hc (List.cons.inj z3).1
                  rw [this]
                  rfl
        · tm_at "s"
          refine no ?_
          rw [h1, Bool.false_and]
    | int i =>
      refine s_isiT (ty_int i) (b := false) (kit_ty (by decide +kernel)) ?_
      tm_at "s"
      exact k H (Ex.refl H)
    | bl i =>
      refine s_isiT (ty_bl i) (b := false) (kit_ty (by decide +kernel)) ?_
      tm_at "s"
      exact k H (Ex.refl H)
    | odd ty h1 h2 h3 h4 h5 =>
      refine s_isiT ty h3 ?_
      tm_at "s"
      rw [odd_fgB h5] at k
      exact k H (Ex.refl H)
def numOf (x : V) (a b : Int) : V := match x with
  | .str z => if figB z = true then (if a ≤ valOf z ∧ valOf z ≤ b then .int (valOf z) else .non) else .non
  | _ => .non
theorem odd_numOf {x : V} {a b : Int} (h : ∀ i, x ≠ .str i) : numOf x a b = .non := by
  cases x <;> first | rfl | exact absurd rfl (h _)
def spNumberOf (K : PySem.W.Frag) : Sp := fun vs H Q _ => ∃ x a b, vs = [x, .int a, .int b] ∧ Vk K H x ∧ ∀ H', Ex H H' → Q (numOf x a b) H'
theorem fig_parts {z : Str} (h : figB z = true) : (figsOf z).cps.toList ≠ [] ∧ (figsOf z).cps.toList.all isDig = true ∧ (figsOf z).length ≤ 4000 := by
  unfold figB at h
  simp only [Bool.and_eq_true, decide_eq_true_eq] at h
  obtain ⟨⟨⟨h1, h2⟩, h3⟩, _⟩ := h
  refine ⟨fun e => ?_, h3, by omega⟩
  have := len_codes (figsOf z)
  rw [e] at this
  simp at this
  omega
theorem ok_number_of {f : Addr} {fd : FuncData} (F : Fun K "number_of" "number_of" s_number_of f fd) (T : Txt K mg aW C) (c_is_figures : Fn P w K mg base CX0 1 "is_figures" ["word"] (spIsFigures K)) :
    FnG P w K mg base CX0 2 f fd ["word", "least", "most"] (spNumberOf K) := by
  refine funG F sc_number_of (fun vs H Q E h => ?_) (fun cd A fr s H vs Q E hr hg h => ?_)
  · obtain ⟨x, a, b, rfl, _⟩ := h; rfl
  · obtain ⟨x, a, b, rfl, hk, k⟩ := h
    refine ⟨_, (pss_cons (ps_if (pt_not (pt_val (pe_f c_is_figures hr hg pass0 (pa_cons (pv 0) pa_nil)))) (pss_one (ps_ret pe_non)) pss_nil)
      (pss_cons (ps_set (i := 3) sc_number_of.nd rfl (Or.inl rfl) (pe_callTy (KX.callInt (K := K)) (by rfl) T.b_int (by decide +kernel) (pa_cons (pv 0) pa_nil)))
      (pss_one (ps_ret (pe_ifExp (pt_chain op_le op_le (pv 1) (pv 3) (pv 2)) (pv 3) pe_non))))), ?_⟩
    tm_at "s"
    refine ⟨x, rfl, hk, fun H1 e1 => ?_⟩
    tm_at "s"
    have k' := k H1 e1
    cases hk with
    | str z hz hzc =>
      change Q (if figB z = true then (if a ≤ valOf z ∧ valOf z ≤ b then .int (valOf z) else .non) else .non) H1 at k'
      show if (!figB z) = true then _ else _
      refine iteB (fun h1 => ?_) (fun h1 => ?_)
      · tm_at "s"
        have h2 : figB z = false := by simpa using h1
        rw [h2, if_neg (by decide)] at k'
        exact k'
      · have h2 : figB z = true := by simpa using h1
        rw [h2, if_pos rfl] at k'
        obtain ⟨p1, p2, p3⟩ := fig_parts h2
        tm_at "s"
        refine s_cF p1 p2 p3 (Nat.le_of_lt (sz_of hz)) T.digits ?_
        tm_at "s"
        refine iteB (fun h3 => ?_) (fun h3 => ?_)
        · tm_at "s"
          have h3' := of_decide_eq_true h3
          refine iteB (fun h4 => ?_) (fun h4 => ?_)
          · tm_at "s"
            rw [if_pos ⟨h3', of_decide_eq_true h4⟩] at k'
            exact k'
          · tm_at "s"
            rw [if_neg (fun z => of_decide_eq_false h4 z.2)] at k'
            exact k'
        · tm_at "s"
          rw [if_neg (fun z => of_decide_eq_false h3 z.1)] at k'
          exact k'
    | int i =>
      show if (!false) = true then _ else _
      tm_at "s"
      exact k'
    | bl i =>
      show if (!false) = true then _ else _
      tm_at "s"
      exact k'
    | odd ty h1 h2 h3 h4 h5 =>
      rw [odd_fgB h5]
      tm_at "s"
      rw [odd_numOf h5] at k'
      exact k'
/-! ## fractions -/
def spCommon : Sp := fun vs H Q _ => ∃ a b : Nat, vs = [.int a, .int b] ∧ Q (.int ((Nat.gcd a b : Nat) : Int)) H
theorem ok_common {f : Addr} {fd : FuncData} (F : Fun K "common" "common" s_common f fd) : FnG P w K mg base CX0 1 f fd ["one", "other"] spCommon := by
  refine funG F sc_common (fun vs H Q E h => ?_) (fun cd A fr s H vs Q E hr hg h => ?_)
  · obtain ⟨a, b, rfl, _⟩ := h; rfl
  · obtain ⟨a, b, rfl, k⟩ := h
    refine ⟨_, PSs.nox ((pss_cons (ps_while PassesOwn.never (pt_cmpR (KX.neU (K := K) rfl hr.units) (pv 1) pe_int (nomark _)) (pss_one (ps_par (by rfl) sc_common.nd (i := 0) (j := 1) rfl rfl (by decide) rfl rfl (pa_cons (pv 1) (pa_cons (pe_op op_mod (pv 0) (pv 1)) pa_nil)) (by rfl))))
      (pss_one (ps_ret (pv 0))))), ?_⟩
    tm_at "s"
    refine ⟨fun m σ' H' => ∃ x y : Nat, σ' = [some (.int x), some (.int y)] ∧ y = m ∧ Nat.gcd x y = Nat.gcd a b ∧ H' = H, ⟨b, a, b, rfl, rfl, rfl, rfl⟩, ?_⟩
    rintro m σ' H' ⟨x, y, rfl, rfl, hgcd, rfl⟩
    tm_at "s"
    refine iteB (fun h1 => ?_) (fun h1 => ?_)
    · have hy : (y : Int) ≠ 0 := by simpa using h1
      have hy' : y ≠ 0 := fun z => hy (by rw [z]; rfl)
      refine ⟨fun σ2 H2 => σ2 = [some (.int y), some (.int ((x % y : Nat) : Int))] ∧ H2 = H', ?_, ?_⟩
      · rintro σ2 H2 ⟨rfl, rfl⟩
        refine ⟨x % y, Nat.mod_lt _ (by omega), y, x % y, rfl, rfl, ?_, rfl⟩
        rw [← hgcd, Nat.gcd_comm x y, Nat.gcd_rec y x, Nat.gcd_comm]
      · tm_at "s"
        refine s_I (show (0 : Int) < (y : Int) by omega) ?_
        tm_at "s"
        exact ⟨rfl, rfl⟩
    · have hy : (y : Int) = 0 := by simpa using h1
      have hy' : y = 0 := by omega
      subst hy'
      rw [Nat.gcd_zero_right] at hgcd
      tm_at "s"
      rw [hgcd]
      exact k
def sgn (b : Int) : Int := if 0 < b then 1 else -1
def rO (a b : Int) : Int := sgn b * a / ((Nat.gcd a.natAbs b.natAbs : Nat) : Int)
def rU' (a b : Int) : Int := sgn b * b / ((Nat.gcd a.natAbs b.natAbs : Nat) : Int)
def flds (o u : Int) : List (Str × V) := putF "under" (.int u) (putF "over" (.int o) [])
theorem abs_nat (i : Int) : (if i < 0 then -i else i) = ((i.natAbs : Nat) : Int) := by split <;> omega
theorem sgn_mul {b x : Int} : IntMulOk (sgn b) x := mulL (by unfold sgn; split <;> decide)
theorem gcd_bits {a b : Int} {k : Nat} (hb : b ≠ 0) (h : b.natAbs < 2 ^ k) (hk : 0 < k) (h9 : k ≤ 9000) (i : Int) : CDivW i ((Nat.gcd a.natAbs b.natAbs : Nat) : Int) := by
  have hp : 0 < Nat.gcd a.natAbs b.natAbs := Nat.gcd_pos_of_pos_right _ (by omega)
  have hl : Nat.gcd a.natAbs b.natAbs ≤ b.natAbs := Nat.gcd_le_right _ (by omega)
  exact wide_div (b := k) (by omega) (by rw [Int.natAbs_natCast]; omega) hk h9
def spRatio (C : Addr) : Sp := fun vs H Q _ => ∃ (p dx : Addr) (a b : Int), vs = [.ref p, .int a, .int b] ∧ b ≠ 0 ∧ b.natAbs < 2 ^ 8000 ∧ H p = some (.ins C dx []) ∧
  ∀ H', (∀ c, c ≠ p → H' c = H c) → H' p = some (.ins C dx (flds (rO a b) (rU' a b))) → Q .non H'
theorem ok_ratio {f : Addr} {fd : FuncData} (F : FunD K "__init__" "Ratio.__init__" (defArgs s_Ratio___init__) (defBody s_Ratio___init__) (defScope s_Ratio___init__) [.int 1] [] f fd) (T : Txt K mg aW C) (c_is_integer : Fn P w K mg base CX0 1 "is_integer" ["value"] (spIsInteger K)) (c_common : Fn P w K mg base CX0 1 "common" ["one", "other"] spCommon) :
    FnG P w K mg base CX0 2 f fd ["self", "over", "under"] (spRatio C) := by
  refine funDG F sc_Ratio___init__ (fun vs H Q E h => ?_) (fun cd A fr s H vs Q E hr hg h => ?_)
  · obtain ⟨p, dx, a, b, rfl, _⟩ := h; rfl
  · obtain ⟨p, dx, a, b, rfl, hb, hb2, hp, k⟩ := h
    refine ⟨_, (pss_cons (ps_if (pt_not (pt_val (pe_f c_is_integer hr hg pass0 (pa_cons (pv 1) pa_nil)))) (pss_one ps_never) pss_nil)
      (pss_cons (ps_if (PW.pt (pw_or (pt_not (pt_val (pe_f c_is_integer hr hg pass0 (pa_cons (pv 2) pa_nil)))) (pw_or1 (pt_cmpR (KX.eqU (K := K) rfl hr.units) (pv 2) pe_int (nomark _))))) (pss_one ps_never) pss_nil)
      (pss_cons (ps_set (i := 3) sc_Ratio___init__.nd rfl (Or.inl rfl) (pe_f c_common hr hg pass0 (pa_cons (pe_callB call_abs (by rfl) T.b_abs (by decide +kernel) (pa_cons (pv 1) pa_nil)) (pa_cons (pe_callB call_abs (by rfl) T.b_abs (by decide +kernel) (pa_cons (pv 2) pa_nil)) pa_nil))))
      (Evl.pss_cut (ps_set (i := 4) sc_Ratio___init__.nd rfl (Or.inl rfl) (pe_ifExp (pt_cmpR op_gt (pv 2) pe_int (nomark _)) pe_int (pe_un un_neg pe_int)))
      (pss_cons (ps_fld (pv 0) (pe_op op_fdivW (pe_op opMul (pv 4) (pv 1)) (pv 3)) rfl)
      (pss_one (ps_fld (pv 0) (pe_op op_fdivW (pe_op opMul (pv 4) (pv 2)) (pv 3)) rfl))))))), ?_⟩
    tm_at "s"
    refine ⟨_, rfl, .int a, ?_⟩
    tm_at "s"
    refine iteNT ?_
    tm_at "s"
    refine ⟨_, rfl, .int b, ?_⟩
    tm_at "s"
    refine iteNT ?_
    tm_at "s"
    refine iteD (fun z => absurd z hb) (fun _ => ?_)
    tm_at "s"
    rw [abs_nat, abs_nat]
    refine ⟨a.natAbs, b.natAbs, rfl, ?_⟩
    tm_at "s"
    refine s_cut (M := fun σ' H' => σ' = [some (.ref p), some (.int a), some (.int b), some (.int ((Nat.gcd a.natAbs b.natAbs : Nat) : Int)), some (.int (sgn b))] ∧ H' = H) ?_ ?_
    · tm_at "s"
      refine iteD (fun z => ?_) (fun z => ?_)
      · tm_at "s"
        refine ⟨?_, rfl⟩
        unfold sgn; rw [if_pos z]; rfl
      · tm_at "s"
        refine ⟨?_, rfl⟩
        unfold sgn; rw [if_neg z]; rfl
    · rintro σ' H' ⟨rfl, rfl⟩
      tm_at "s"
      refine s_mulI sgn_mul ?_
      tm_at "s"
      refine s_I (gcd_bits hb hb2 (by decide) (by decide) _) ?_
      tm_at "s"
      refine ⟨p, C, dx, [], rfl, hp, T.cl, T.nO, by decide, ?_⟩
      tm_at "s"
      refine s_mulI sgn_mul ?_
      tm_at "s"
      refine s_I (gcd_bits hb hb2 (by decide) (by decide) _) ?_
      tm_at "s"
      refine ⟨p, C, dx, _, rfl, upd_same, T.cl, T.nU, (by show 1 < 1000; decide), ?_⟩
      exact k _ (fun c hc => by rw [upd_ne hc, upd_ne hc]) upd_same
end
end K02
end
section
namespace K02
open PySem PySem.Spec PyProof.Rows L2 L3 LamX
abbrev s__law_pen : Stmt := topS 25
abbrev names__law_pen : List Str := ["_law_script"]
theorem sc__law_pen : FnScope ["_law_script"] ["_law_script"] (defScope s__law_pen) := ⟨rfl, rfl, rfl, by decide +kernel, rfl, by decide +kernel, by decide +kernel⟩
abbrev s__law_draw : Stmt := topS 26
abbrev names__law_draw : List Str := ["_law_pen_here", "_law_many", "_law_digit", "_law_spot", "_law_cell", "_law_great", "_law_stirred"]
theorem sc__law_draw : FnScope ["_law_pen_here", "_law_many", "_law_digit", "_law_spot", "_law_cell", "_law_great", "_law_stirred"] ["_law_pen_here", "_law_many"] (defScope s__law_draw) := ⟨rfl, rfl, rfl, by decide +kernel, rfl, by decide +kernel, by decide +kernel⟩
abbrev s__law_pick : Stmt := topS 27
abbrev names__law_pick : List Str := ["_law_pen_here", "_law_some"]
theorem sc__law_pick : FnScope ["_law_pen_here", "_law_some"] ["_law_pen_here", "_law_some"] (defScope s__law_pick) := ⟨rfl, rfl, rfl, by decide +kernel, rfl, by decide +kernel, by decide +kernel⟩
abbrev s__law_is_name : Stmt := topS 30
abbrev names__law_is_name : List Str := ["_law_wordy", "_law_reserved", "_law_sign"]
theorem sc__law_is_name : FnScope ["_law_wordy", "_law_reserved", "_law_sign"] ["_law_wordy"] (defScope s__law_is_name) := ⟨rfl, rfl, rfl, by decide +kernel, rfl, by decide +kernel, by decide +kernel⟩
abbrev s__law_written : Stmt := topS 31
abbrev names__law_written : List Str := ["_law_wordy", "_law_figures", "_law_sign"]
theorem sc__law_written : FnScope ["_law_wordy", "_law_figures", "_law_sign"] ["_law_wordy"] (defScope s__law_written) := ⟨rfl, rfl, rfl, by decide +kernel, rfl, by decide +kernel, by decide +kernel⟩
section
variable {P : Program} {w : World} {K : PySem.W.Frag} {mg : Str → Option Value} {base : Heap} {aW C : Addr}
theorem ok_pen {f : Addr} {fd : FuncData} (F : Fun K "_law_pen" "_law_pen" s__law_pen f fd) (T : Txt K mg aW C) : FnG P w K mg base CX0 1 f fd ["_law_script"] (spPen K) := by
  refine funG F sc__law_pen (fun vs H Q E h => ?_) (fun cd A fr s H vs Q E hr hg h => ?_)
  · obtain ⟨a, ns, rfl, _⟩ := h; rfl
  · obtain ⟨a, ns, rfl, hs, hl, k⟩ := h
    refine ⟨_, pss_penNew ((pss_one (ps_ret (pe_lst (pa_cons (pe_callTy (KX.callList (K := K) rfl rfl) (by rfl) T.b_list (by decide +kernel) (pa_cons (pe_slice (KX.slU (K := K)) (pv 0) po_none (po_some pe_int)) pa_nil)) (pa_cons pe_int (pa_cons pe_int pa_nil))))))), ?_⟩
    show (tRet _ : TS) _ _ _
    tm_at "s"
    refine s_slL hs fun q H1 hq e1 h1 => ?_
    tm_at "s"
    refine s_listL (.inl (.inl h1)) fun l H2 hl2 e2 h2 => ?_
    tm_at "s"
    refine s_new (Nat.le_of_lt (small1000 (by simp))) fun p H3 hp e3 h3 => ?_
    have hH : H p = none := e1.free (e2.free hp)
    have nlp : l ≠ p := ne_of_none h2 hp
    have hHl : H l = none := e1.free hl2
    refine ⟨p, l, 0, ns.take 63, rfl, h3, ?_, nlp, k p _ hH (fun b o hb => ?_) ⟨l, ns.take 63, ?_, upd_same, ?_, nlp⟩⟩
    · rw [e3 _ _ h2]
      have : cutV (ns.map V.int) none (some 63) = (ns.take 63).map V.int := by
        unfold cutV
        show ((ns.map V.int).drop 0).take (HT.sIx (ns.map V.int).length (ns.map V.int).length (some (63 : Nat)) - 0) = _
        rw [HT.sIx_nat, List.drop_zero, List.length_map, Nat.sub_zero, List.map_take]
        rw [List.take_eq_take_iff]
        simp
      rw [this]
    · rw [upd_ne (ne_of_none hb hHl), upd_ne (ne_of_none hb hH)]
      exact e3 _ _ (e2 _ _ (e1 _ _ hb))
    · rw [upd_ne (Ne.symm nlp)]; exact upd_same
    · rw [List.length_take]; omega
theorem drawC : DrawC 93033 917 2147437975 84037 519 2147427985 135 71029 119 2147418001 := ⟨by decide, by decide, by decide, by decide, by decide, by decide, by decide, by decide, by decide⟩
theorem ok_draw {f : Addr} {fd : FuncData} (F : Fun K "_law_draw" "_law_draw" s__law_draw f fd) (T : Txt K mg aW C) : FnG P w K mg base CX0 1 f fd ["_law_pen_here", "_law_many"] spDraw := by
  refine funG F sc__law_draw (fun vs H Q E h => ?_) (fun cd A fr s H vs Q E hr hg h => ?_)
  · obtain ⟨a, n, many, rfl, _⟩ := h; rfl
  · obtain ⟨a, n, many, rfl, hm, hm2, ⟨c, ns, ha, hc, hl⟩, hn, k⟩ := h
    refine ⟨_, pss_sc c ns (pss_pen a c n (n + 1) ((pss_cons (ps_if (pt_cmpR op_gt (pe_ix (KX.ixU (K := K)) (pv 0) pe_int (fun _ _ => rfl)) pe_int (nomark _)) (pss_cons (ps_set (i := 2) sc__law_draw.nd rfl (Or.inl rfl) (pe_op op_mod (pe_callTy (KX.callInt (K := K)) (by rfl) T.b_int (by decide +kernel) (pa_cons (pe_ix (KX.ixU (K := K)) (pv 0) pe_int (fun _ _ => rfl)) pa_nil)) (pv 1)))
      (pss_cons (ps_asg (pe_op op_fdivW (pe_callTy (KX.callInt (K := K)) (by rfl) T.b_int (by decide +kernel) (pa_cons (pe_ix (KX.ixU (K := K)) (pv 0) pe_int (fun _ _ => rfl)) pa_nil)) (pv 1)) (pg_sub (pv 0) pe_int set_list))
      (pss_one (ps_ret (pv 2))))) pss_nil)
      (pss_cons (ps_set (i := 3) sc__law_draw.nd rfl (Or.inl rfl) (pe_ix (KX.ixU (K := K)) (pv 0) pe_int (fun _ _ => rfl)))
      (pss_cons (ps_asg (pe_op opAdd (pv 3) pe_int) (pg_sub (pv 0) pe_int set_list))
      (pss_cons (ps_set (i := 4) sc__law_draw.nd rfl (Or.inl rfl) (pe_op opAdd (pe_op opMul pe_int (pv 3)) pe_int))
      (Evl.pss_cut (ps_if (pt_cmpR (KX.neU (K := K) rfl hr.units) (pe_ix (KX.ixU (K := K)) (pv 0) pe_int (fun _ _ => rfl)) (pe_lst pa_nil) (nomark _)) (pss_one (ps_set (i := 4) sc__law_draw.nd rfl (Or.inl rfl) (pe_ix (KX.ixU (K := K)) (pe_ix (KX.ixU (K := K)) (pv 0) pe_int (fun _ _ => rfl)) (pe_op op_mod (pe_callTy (KX.callInt (K := K)) (by rfl) T.b_int (by decide +kernel) (pa_cons (pv 3) pa_nil)) (pe_callB (KX.callLen (K := K)) (by rfl) T.b_len (by decide +kernel) (pa_cons (pe_ix (KX.ixU (K := K)) (pv 0) pe_int (fun _ _ => rfl)) pa_nil))) (fun _ _ => rfl)))) pss_nil)
      (pss_cons (ps_if (PW.pt (pw_and (pt_cmpR op_lt (pv 3) (pe_callB (KX.callLen (K := K)) (by rfl) T.b_len (by decide +kernel) (pa_cons (pe_ix (KX.ixU (K := K)) (pv 0) pe_int (fun _ _ => rfl)) pa_nil)) (nomark _)) (pw_and1 (pt_cmpR op_ge (pe_callB call_abs (by rfl) T.b_abs (by decide +kernel) (pa_cons (pv 4) pa_nil)) (pe_op op_pow pe_int pe_int) (nomark _))))) (pss_cons (ps_set (i := 5) sc__law_draw.nd rfl (Or.inl rfl) (pe_op opAdd (pe_op opMul pe_int (pe_op op_sub (pe_callB call_abs (by rfl) T.b_abs (by decide +kernel) (pa_cons (pv 4) pa_nil)) (pe_op op_pow pe_int pe_int))) (pe_callTy (KX.callInt (K := K)) (by rfl) T.b_int (by decide +kernel) (pa_cons (pe_cmpR op_lt (pv 4) pe_int (nomark _)) pa_nil))))
      (pss_cons (ps_asg (pe_op op_fdivW (pe_callTy (KX.callInt (K := K)) (by rfl) T.b_int (by decide +kernel) (pa_cons (pv 5) pa_nil)) (pv 1)) (pg_sub (pv 0) pe_int set_list))
      (pss_one (ps_ret (pe_op op_mod (pe_callTy (KX.callInt (K := K)) (by rfl) T.b_int (by decide +kernel) (pa_cons (pv 5) pa_nil)) (pv 1)))))) pss_nil)
      (pss_cons (ps_set (i := 6) sc__law_draw.nd rfl (Or.inl rfl) (pe_op op_mod (pe_callTy (KX.callInt (K := K)) (by rfl) T.b_int (by decide +kernel) (pa_cons (pe_op op_pow (pe_op opAdd (pe_op opAdd (pe_op op_mod (pe_callTy (KX.callInt (K := K)) (by rfl) T.b_int (by decide +kernel) (pa_cons (pv 4) pa_nil)) pe_int) (pe_op opMul pe_int (pv 3))) pe_int) pe_int) pa_nil)) pe_int))
      (pss_cons (ps_set (i := 6) sc__law_draw.nd rfl (Or.inl rfl) (pe_op op_mod (pe_callTy (KX.callInt (K := K)) (by rfl) T.b_int (by decide +kernel) (pa_cons (pe_op op_pow (pe_op opAdd (pe_op opAdd (pe_op opMul (pv 6) (pe_op opAdd (pe_op opMul pe_int (pv 3)) pe_int)) (pe_op opMul (pe_op opMul pe_int (pv 3)) (pv 3))) pe_int) pe_int) pa_nil)) pe_int))
      (pss_one (ps_ret (pe_op op_mod (pe_callTy (KX.callInt (K := K)) (by rfl) T.b_int (by decide +kernel) (pa_cons (pe_op op_fdivW (pv 6) pe_int) pa_nil)) (pv 1)))))))))))))), ?_⟩
    exact rd_drawS drawC hm hm2 ha hc hn hl k
theorem ok_pick {f : Addr} {fd : FuncData} (F : Fun K "_law_pick" "_law_pick" s__law_pick f fd) (T : Txt K mg aW C) (c__law_draw : Fn P w K mg base CX0 1 "_law_draw" ["_law_pen_here", "_law_many"] spDraw) :
    FnG P w K mg base CX0 2 f fd ["_law_pen_here", "_law_some"] spPick := by
  refine funG F sc__law_pick (fun vs H Q E h => ?_) (fun cd A fr s H vs Q E hr hg h => ?_)
  · obtain ⟨a, l, n, xs, rfl, _⟩ := h; rfl
  · obtain ⟨a, l, n, xs, rfl, hl, hne, hlen, hp, hn, k⟩ := h
    refine ⟨_, (pss_one (ps_ret (pe_ix (KX.ixU (K := K)) (pv 1) (pe_f c__law_draw hr hg pass0 (pa_cons (pv 0) (pa_cons (pe_callB (KX.callLen (K := K)) (by rfl) T.b_len (by decide +kernel) (pa_cons (pv 1) pa_nil)) pa_nil))) (fun _ _ => rfl)))), ?_⟩
    tm_at "s"
    refine s_lenL hl ?_
    have hpos : 0 < xs.length := List.length_pos_iff.mpr hne
    refine ⟨a, n, _, rfl, by omega, ?_, hp, hn, fun d H' d0 d1 hp' hk => ?_⟩
    · rw [Int.natAbs_natCast]
      exact Nat.lt_of_le_of_lt hlen (Nat.lt_of_lt_of_le (by decide : 100000 < 2 ^ 20) (Nat.pow_le_pow_right (by decide) (by decide)))
    · have nl : l ≠ a := hp.ne hl fun c n z => by unfold PenO at z; cases z
      have hd : d.toNat < xs.length := by omega
      refine s_iL (v := xs[d.toNat]) (hk l _ nl hl) (by rw [atI_int d0 d1, List.getElem?_eq_getElem hd]) ?_
      exact k _ _ (List.getElem_mem hd) hp' hk
end
end K02
namespace K02
open PySem PySem.Spec PyProof.Rows L2 L3 LamX
section
variable {P : Program} {w : World} {K : PySem.W.Frag} {mg : Str → Option Value} {base : Heap} {aW C : Addr}
def oneS (c : Nat) : Str := ⟨#[c]⟩
theorem dpStrs {H : Hp} : ∀ l : List Nat, DpAll K H (l.map fun c => V.str (oneS c)) (l.map fun c => PyData.str (oneS c))
  | [] => .nil
  | _ :: r => .cons (.str _) (dpStrs r)
theorem shStrs {l : List Nat} (h : ∀ c ∈ l, c < 1114112) : SeqAt.shaped (.list (l.map fun c => PyData.str (oneS c))) = true := by
  have h1 : ∀ l : List Nat, (∀ c ∈ l, c < 1114112) → PyData.canLayAll0 (l.map fun c => PyData.str (oneS c)) = true := by
    intro l
    induction l with
    | nil => intro _; rfl
    | cons x r ih =>
      intro h
      rw [List.map_cons]
      unfold PyData.canLayAll0
      rw [ih fun c hc => h c (List.mem_cons_of_mem _ hc)]
      have hx := h x List.mem_cons_self
      unfold PyData.canLay0 PyData.strOk oneS
      simp [hx]
  have h2 : ∀ l : List Nat, PyData.depthAll (l.map fun c => PyData.str (oneS c)) = 0 := by
    intro l
    induction l with
    | nil => rfl
    | cons x r ih => rw [List.map_cons]; unfold PyData.depthAll; rw [ih]; rfl
  unfold SeqAt.shaped PyData.canLay0 PyData.depth
  rw [h1 l h, h2]; decide
theorem eqv_nil (l : List PyData) : PyData.eqv (.list l) (.list []) = l.isEmpty := by
  cases l <;> rfl
theorem filt_empty {l : List Nat} (p : Nat → Bool) : ((l.filter fun c => !p c).map fun c => PyData.str (oneS c)).isEmpty = l.all p := by
  rw [List.isEmpty_map]
  induction l with
  | nil => rfl
  | cons x r ih =>
    rw [List.all_cons, List.filter_cons]
    cases p x <;> simp [ih]
def spLIsName : Sp := fun vs H Q _ => ∃ z, vs = [.str z] ∧ z.length ≤ 100000 ∧ (∀ c ∈ z.cps.toList, c < 1114112) ∧ ∀ H', Ex H H' → Q (.bl (nameB z)) H'
theorem ok_lisname {f : Addr} {fd : FuncData} (F : Fun K "_law_is_name" "_law_is_name" s__law_is_name f fd) (T : Txt K mg aW C) : FnG P w K mg base CX0 1 f fd ["_law_wordy"] spLIsName := by
  refine funG F sc__law_is_name (fun vs H Q E h => ?_) (fun cd A fr s H vs Q E hr hg h => ?_)
  · obtain ⟨z, rfl, _⟩ := h; rfl
  · obtain ⟨z, rfl, hz, hc, k⟩ := h
    have hzz : z.length ≤ sizeLine := Nat.le_of_lt (sz_of hz)
    refine ⟨_, (pss_cons (ps_set (i := 1) sc__law_is_name.nd rfl (Or.inl rfl) (pe_lst (pa_cons pe_str (pa_cons pe_str (pa_cons pe_str (pa_cons pe_str (pa_cons pe_str (pa_cons pe_str (pa_cons pe_str (pa_cons pe_str (pa_cons pe_str (pa_cons pe_str pa_nil))))))))))))
      (pss_cons (ps_if (PW.pt (pw_or (pt_cmpR op_lt (pe_callB (KX.callLen (K := K)) (by rfl) T.b_len (by decide +kernel) (pa_cons (pv 0) pa_nil)) pe_int (nomark _)) (pw_or (pt_cmpR op_gt (pe_callB (KX.callLen (K := K)) (by rfl) T.b_len (by decide +kernel) (pa_cons (pv 0) pa_nil)) pe_int (nomark _)) (pw_or1 (pt_cmpR (KX.opIn (K := K)) (pv 0) (pv 1) (by rfl)))))) (pss_one (ps_ret pe_bl)) pss_nil)
      (pss_one (ps_ret (pe_cmpR (KX.eqU (K := K) rfl hr.units) (pe_lc (own := [("_law_sign", 2)]) (g := gName 2) (by rfl) sc__law_is_name.nd (pi_str (pv 0)) (blkOk_by (own := [("_law_sign", 2)]) (N := names__law_is_name) (sc := defScope s__law_is_name) (by decide +kernel)) (fun _ _ _ _ _ => pg_name (i := 2) sc__law_is_name.nd rfl (Or.inl rfl)) (fun _ _ _ _ _ => pts_one (pt_cmpR (KX.opNotIn (K := K)) (pv 2) pe_str (by rfl))) (fun _ _ _ _ _ => (pv 2))) (pe_lst pa_nil) (nomark _)))))), ?_⟩
    tm_at "s"
    refine s_new (Nat.le_of_lt (small1000 (by simp))) fun p H1 hp e1 h1 => ?_
    have fin : ∀ b : Bool, nameB z = b → ∀ H', Ex H H' → Q (.bl b) H' := fun b e => by rw [← e]; exact k
    tm_at "s"
    refine s_lenS hzz ?_
    tm_at "s"
    refine iteD (fun g1 => ?_) (fun g1 => ?_)
    · tm_at "s"
      refine fin false ?_ H1 e1
      unfold nameB
      rw [decide_eq_false (show ¬ 1 ≤ (z.length : Int) by omega), Bool.false_and, Bool.false_and]
    · tm_at "s"
      refine s_lenS hzz ?_
      tm_at "s"
      refine iteD (fun g2 => ?_) (fun g2 => ?_)
      · tm_at "s"
        refine fin false ?_ H1 e1
        unfold nameB
        rw [decide_eq_false (show ¬ (z.length : Int) ≤ 8 by omega), Bool.and_false, Bool.false_and]
      · tm_at "s"
        refine s_inL (xs := wordsV) h1 rfl (by decide +kernel) ?_
        tm_at "s"
        refine iteB (fun g3 => ?_) (fun g3 => ?_)
        · tm_at "s"
          refine fin false ?_ H1 e1
          unfold nameB
          rw [g3, Bool.not_true, Bool.false_and, Bool.and_false]
        · tm_at "s"
          refine lcStr (fun c => !decide (c ∈ signsT.cps.toList)) (fun c => .str (oneS c)) (sz_of hz) (fun _ => rfl) (fun c H' R h => ?_) (fun c H' R _ h => ?_) fun q H2 hq e2 h2 => ?_
          · tm_at "s"
            exact h
          · tm_at "s"
            exact h
          · tm_at "s"
            refine s_new (by decide) fun q2 H3 hq2 e3 h3 => ?_
            refine s_eqD' (.lst (.inl (.inl (e3 _ _ h2))) (dpStrs _)) (.lst (.inl (.inl h3)) .nil) (shStrs fun c h => hc c (List.mem_filter.mp h).1) rfl ?_
            rw [eqv_nil, filt_empty]
            refine fin _ ?_ H3 (e1.trans (e2.trans e3))
            unfold nameB
            rw [decide_eq_true (show 1 ≤ (z.length : Int) by omega), decide_eq_true (show (z.length : Int) ≤ 8 by omega), g3]
            rfl
/-! what the law itself reads -/
def wrOf (z : Str) : V := if (figsOf z).cps.toList.isEmpty = false ∧ (figsOf z).cps.toList.all isDig = true ∧ strOf (valOf z) = z then .int (valOf z) else .non
def spWritten : Sp := fun vs H Q _ => ∃ z, vs = [.str z] ∧ z.length ≤ 500 ∧ (∀ c ∈ z.cps.toList, c < 1114112) ∧ ∀ H', Ex H H' → Q (wrOf z) H'
theorem val_lt (l : List Nat) (h : NumText.AllDigits l) : NumText.digitsVal l < 10 ^ l.length := by
  have : ∀ n (l : List Nat), l.length = n → NumText.AllDigits l → NumText.digitsVal l < 10 ^ n := by
    intro n
    induction n with
    | zero => intro l hl _; rw [List.length_eq_zero_iff.mp hl]; decide
    | succ n ih =>
      intro l hl ha
      have hne : l ≠ [] := fun z => by rw [z] at hl; cases hl
      have hd : l = l.dropLast ++ [l.getLast hne] := (List.dropLast_concat_getLast hne).symm
      generalize l.getLast hne = c at hd
      generalize l.dropLast = es at hd
      subst hd
      have hc := ha c (by simp)
      have := ih es (by simp at hl; omega) fun d hd => ha d (by simp [hd])
      rw [val_snoc, Nat.pow_succ]
      omega
  exact this _ l rfl h
theorem val_bits {z : Str} (h2 : (figsOf z).cps.toList.all isDig = true) (hz : z.length ≤ 500) : (valOf z).natAbs.log2 < 1920 := by
  have hl := figs_len z
  have e1 := len_codes (figsOf z)
  have e2 := len_codes z
  have key : (valOf z).natAbs < 10 ^ 500 := by
    have p : ∀ k, k ≤ 500 → 10 ^ k ≤ 10 ^ 500 := fun k hk => Nat.pow_le_pow_right (by decide) hk
    unfold L3.valOf
    by_cases hn : z.cps.toList.head? = some 45
    · rw [if_pos hn]
      obtain ⟨r, hr⟩ := head45 hn
      rw [figs_neg hr] at h2 e1
      have := val_lt r (digits_all h2)
      rw [hr]
      show (-((NumText.digitsVal r : Nat) : Int)).natAbs < _
      rw [Int.natAbs_neg, Int.natAbs_natCast]
      exact Nat.lt_of_lt_of_le this (p _ (by omega))
    · rw [if_neg hn]
      rw [figs_pos hn] at h2
      have := val_lt _ (digits_all h2)
      rw [Int.natAbs_natCast]
      exact Nat.lt_of_lt_of_le this (p _ (by omega))
  by_cases h0 : (valOf z).natAbs = 0
  · rw [h0]; decide
  · rw [Nat.log2_lt h0]
    exact Nat.lt_of_lt_of_le key (by decide +kernel)
theorem ok_written {f : Addr} {fd : FuncData} (F : Fun K "_law_written" "_law_written" s__law_written f fd) (T : Txt K mg aW C) : FnG P w K mg base CX0 1 f fd ["_law_wordy"] spWritten := by
  refine funG F sc__law_written (fun vs H Q E h => ?_) (fun cd A fr s H vs Q E hr hg h => ?_)
  · obtain ⟨z, rfl, _⟩ := h; rfl
  · obtain ⟨z, rfl, hz, hc, k⟩ := h
    have hz1 : z.length ≤ 100000 := by omega
    have hzz : z.length ≤ sizeLine := Nat.le_of_lt (sz_of hz1)
    refine ⟨_, (Evl.pss_cut (ps_set (i := 1) sc__law_written.nd rfl (Or.inl rfl) (pe_ifExp (pt_cmpR (KX.eqU (K := K) rfl hr.units) (pe_slice (KX.slU (K := K)) (pv 0) po_none (po_some pe_int)) pe_str (nomark _)) (pe_slice (KX.slU (K := K)) (pv 0) (po_some pe_int) po_none) (pv 0)))
      (pss_cons (ps_if (PW.pt (pw_or (pt_cmpR (KX.eqU (K := K) rfl hr.units) (pv 1) pe_str (nomark _)) (pw_or1 (pt_cmpR (KX.neU (K := K) rfl hr.units) (pe_lc (own := [("_law_sign", 2)]) (g := gName 2) (by rfl) sc__law_written.nd (pi_str (pv 1)) (blkOk_by (own := [("_law_sign", 2)]) (N := names__law_written) (sc := defScope s__law_written) (by decide +kernel)) (fun _ _ _ _ _ => pg_name (i := 2) sc__law_written.nd rfl (Or.inl rfl)) (fun _ _ _ _ _ => pts_one (pt_cmpR (KX.opNotIn (K := K)) (pv 2) pe_str (by rfl))) (fun _ _ _ _ _ => (pv 2))) (pe_lst pa_nil) (nomark _))))) (pss_one (ps_ret pe_non)) pss_nil)
      (pss_one (ps_ret (pe_ifExp (pt_cmpR (KX.eqU (K := K) rfl hr.units) (pe_callTy call_str_int (by rfl) T.b_str (by decide +kernel) (pa_cons (pe_callTy (KX.callInt (K := K)) (by rfl) T.b_int (by decide +kernel) (pa_cons (pv 0) pa_nil)) pa_nil)) (pv 0) (nomark _)) (pe_callTy (KX.callInt (K := K)) (by rfl) T.b_int (by decide +kernel) (pa_cons (pv 0) pa_nil)) pe_non))))), ?_⟩
    refine s_cut (M := fun σ' H' => σ' = [some (.str z), some (.str (figsOf z)), none] ∧ H' = H) ?_ ?_
    · tm_at "s"
      refine s_slS hzz ?_
      tm_at "s"
      refine iteB (fun h1 => ?_) (fun h1 => ?_)
      · tm_at "s"
        refine s_slS hzz ?_
        refine ⟨?_, rfl⟩
        unfold figsOf
        rw [if_pos h1]
        rfl
      · tm_at "s"
        refine ⟨?_, rfl⟩
        unfold figsOf
        rw [h1, if_neg (by decide)]
        rfl
    · rintro σ' H' ⟨rfl, rfl⟩
      have hf := figs_len z
      have e1 := len_codes (figsOf z)
      tm_at "s"
      refine iteD (fun h1 => ?_) (fun h1 => ?_)
      · tm_at "s"
        have : wrOf z = .non := by
          unfold wrOf
          rw [if_neg]
          rintro ⟨q, _⟩
          rw [h1] at q
          exact absurd q (by decide)
        rw [← this]
        exact k H' (Ex.refl _)
      · have hne : (figsOf z).cps.toList ≠ [] := fun q => h1 (str_ext q)
        have hsub : ∀ c ∈ (figsOf z).cps.toList, c < 1114112 := fun c hm => by
          by_cases hn : z.cps.toList.head? = some 45
          · obtain ⟨r, hr⟩ := head45 hn
            rw [figs_neg hr] at hm
            exact hc c (by rw [hr]; exact List.mem_cons_of_mem _ hm)
          · rw [figs_pos hn] at hm
            exact hc c hm
        tm_at "s"
        refine lcStr (fun c => !isDig c) (fun c => .str (oneS c)) (Nat.lt_of_le_of_lt hf (sz_of hz1)) (fun _ => rfl) (fun c H' R h => ?_) (fun c H' R _ h => ?_) fun q H2 hq e2 h2 => ?_
        · tm_at "s"
          exact h
        · tm_at "s"
          exact h
        · tm_at "s"
          refine s_new (by decide) fun q2 H3 hq2 e3 h3 => ?_
          refine s_neD' (.lst (.inl (.inl (e3 _ _ h2))) (dpStrs _)) (.lst (.inl (.inl h3)) .nil) (shStrs fun c h => hsub c (List.mem_filter.mp h).1) rfl ?_
          rw [eqv_nil, filt_empty]
          tm_at "s"
          have e13 : Ex H' H3 := e2.trans e3
          refine iteB (fun h4 => ?_) (fun h4 => ?_)
          · tm_at "s"
            have : wrOf z = .non := by
              unfold wrOf
              rw [if_neg]
              rintro ⟨_, q, _⟩
              rw [q] at h4
              exact absurd h4 (by decide)
            rw [← this]
            exact k H3 e13
          · have h5 : (figsOf z).cps.toList.all isDig = true := by simpa using h4
            tm_at "s"
            refine s_cF hne h5 (by omega) hzz T.digits ?_
            tm_at "s"
            refine ⟨val_bits h5 hz, ?_⟩
            tm_at "s"
            have h6 : (figsOf z).cps.toList.isEmpty = false := by
              cases hq : (figsOf z).cps.toList with
              | nil => exact absurd hq hne
              | cons a b => rfl
            refine iteB (fun h7 => ?_) (fun h7 => ?_)
            · tm_at "s"
              refine s_cF hne h5 (by omega) hzz T.digits ?_
              have : wrOf z = .int (valOf z) := by
                unfold wrOf
                rw [if_pos ⟨h6, h5, of_decide_eq_true h7⟩]
              rw [← this]
              exact k H3 e13
            · tm_at "s"
              have : wrOf z = .non := by
                unfold wrOf
                rw [if_neg fun q => of_decide_eq_false h7 q.2.2]
              rw [← this]
              exact k H3 e13
/-- both read the same -/
theorem same_read (z : Str) (a b : Int) (hz : z.length ≤ 500) : numOf (.str z) a b = (match wrOf z with | .int n => if a ≤ n ∧ n ≤ b then V.int n else .non | _ => .non) := by
  have hf := figs_len z
  have e1 := len_codes (figsOf z)
  show (if figB z = true then (if a ≤ valOf z ∧ valOf z ≤ b then V.int (valOf z) else .non) else .non) = _
  unfold wrOf
  cases hq : (figsOf z).cps.toList.isEmpty with
  | true =>
    have h0 : (figsOf z).cps.toList = [] := List.isEmpty_iff.mp hq
    have : figB z = false := by
      unfold figB
      rw [h0] at e1
      rw [decide_eq_false (by rw [← e1]; decide)]
      rfl
    rw [this, if_neg (by decide), if_neg (fun q => absurd q.1 (by decide))]
  | false =>
    have hne : (figsOf z).cps.toList ≠ [] := fun q => by rw [q] at hq; cases hq
    have hpos : 0 < (figsOf z).cps.toList.length := List.length_pos_iff.mpr hne
    cases h5 : (figsOf z).cps.toList.all isDig with
    | false =>
      have : figB z = false := by unfold figB; rw [h5, Bool.and_false, Bool.false_and]
      rw [this, if_neg (by decide), if_neg (fun q => absurd q.2.1 (by decide))]
    | true =>
      have hb := str_back hne h5
      have : figB z = decide (strOf (valOf z) = z) := by
        unfold figB
        rw [hb, h5, decide_eq_true (show 1 ≤ ((figsOf z).length : Int) by omega), decide_eq_true (show ((figsOf z).length : Int) ≤ 4000 by omega)]
        rfl
      rw [this]
      by_cases h7 : strOf (valOf z) = z
      · simp [h7]
      · simp [h7]
end
end K02
end
section
namespace K02
open PySem PySem.Spec PyProof.Rows L2 L3 LamX
abbrev s__law_thing : Stmt := topS 28
abbrev names__law_thing : List Str := ["_law_pen_here", "_law_near", "_law_some"]
theorem sc__law_thing : FnScope ["_law_pen_here", "_law_near", "_law_some"] ["_law_pen_here"] (defScope s__law_thing) := ⟨rfl, rfl, rfl, by decide +kernel, rfl, by decide +kernel, by decide +kernel⟩
abbrev s__law_word : Stmt := topS 29
abbrev names__law_word : List Str := ["_law_pen_here", "_law_words_so", "_law_letters", "_law_lap"]
theorem sc__law_word : FnScope ["_law_pen_here", "_law_words_so", "_law_letters", "_law_lap"] ["_law_pen_here"] (defScope s__law_word) := ⟨rfl, rfl, rfl, by decide +kernel, rfl, by decide +kernel, by decide +kernel⟩
section
variable {P : Program} {w : World} {K : PySem.W.Frag} {mg : Str → Option Value} {base : Heap} {aW C : Addr}
abbrev lamQ : Str := (("_law_thing" : Str) ++ ".<locals>.") ++ "<lambda>"
abbrev TL1 (Pt : Addr) : List (Addr × Str) := [(Pt, lamQ)]
/-- a thing that is no text -/
structure Th (K : PySem.W.Frag) (H : Hp) (x : V) : Prop where
  vk : Vk K H x
  ns : ∀ z, x ≠ .str z
structure TxC (K : PySem.W.Frag) (C : Addr) : Prop where
  ty : ∀ (H : Hp) (a dx : Addr) (fs : List (Str × V)), H a = some (.ins C dx fs) → TyX K H (.ref a) (.ref C)
  k1 : PySem.W.kitOne K (.ref C) (.type "int") = some false
  k2 : PySem.W.kitOne K (.ref C) (.type "bool") = some false
  k3 : PySem.W.kitOne K (.ref C) (.type "str") = some false
theorem th_int {H : Hp} (i : Int) : Th K H (.int i) := ⟨.int i, fun _ z => nomatch z⟩
theorem th_bl {H : Hp} (i : Bool) : Th K H (.bl i) := ⟨.bl i, fun _ z => nomatch z⟩
theorem th_non {H : Hp} : Th K H .non := ⟨.odd (.x (.base .non)) (kit_ty (by decide +kernel)) (kit_ty (by decide +kernel)) (kit_ty (by decide +kernel)) (fun _ z => nomatch z) (fun _ z => nomatch z), fun _ z => nomatch z⟩
theorem th_tup {H : Hp} {a : Addr} {xs : List V} (e : H a = some (.tup xs)) : Th K H (.ref a) := ⟨.odd (.x (.base (.tup e))) (kit_ty (by decide +kernel)) (kit_ty (by decide +kernel)) (kit_ty (by decide +kernel)) (fun _ z => nomatch z) (fun _ z => nomatch z), fun _ z => nomatch z⟩
theorem th_lst {H : Hp} {a : Addr} {xs : List V} (e : H a = some (.lst xs)) : Th K H (.ref a) := ⟨.odd (.x (.base (.lst e))) (kit_ty (by decide +kernel)) (kit_ty (by decide +kernel)) (kit_ty (by decide +kernel)) (fun _ z => nomatch z) (fun _ z => nomatch z), fun _ z => nomatch z⟩
theorem th_dct {H : Hp} {a : Addr} {xs : List (Key × V)} (e : H a = some (.dK xs)) : Th K H (.ref a) := ⟨.odd (.x (.base (.dK e))) (kit_ty (by decide +kernel)) (kit_ty (by decide +kernel)) (kit_ty (by decide +kernel)) (fun _ z => nomatch z) (fun _ z => nomatch z), fun _ z => nomatch z⟩
theorem th_fn {H : Hp} {a : Addr} (e : H a = some (FnV a)) : Th K H (.ref a) := ⟨.odd (.fn e) (kit_ty (by decide +kernel)) (kit_ty (by decide +kernel)) (kit_ty (by decide +kernel)) (fun _ z => nomatch z) (fun _ z => nomatch z), fun _ z => nomatch z⟩
theorem th_ins {H : Hp} (X : TxC K C) {a dx : Addr} {fs : List (Str × V)} (e : H a = some (.ins C dx fs)) : Th K H (.ref a) := ⟨.odd (.x (X.ty H a dx fs e)) X.k1 X.k2 X.k3 (fun _ z => nomatch z) (fun _ z => nomatch z), fun _ z => nomatch z⟩
def spThing (K : PySem.W.Frag) (T : List (Addr × Str)) : Sp := fun vs H Q _ => ∃ a n, vs = [.ref a] ∧ Wo T H a n ∧ n + 2 ≤ lim ∧ ∀ x H', Xt a H H' → Wo T H' a (n + 2) → Th K H' x → Q x H'
theorem notPen {a : Addr} {o : HO} (h : match o with | .ext _ => False | _ => True) : ∀ c n, o ≠ PenO a c n := fun c n z => by
  unfold PenO at z
  subst z
  exact h
theorem ok_thing {c Pt f : Addr} {fd : FuncData} (F : FunC K "_law_thing" "_law_thing" s__law_thing c f fd) (TB : TabB base mg c Pt) (T : Txt K mg aW C) (TX : TxC K C)
    (c__law_draw : Fn P w K mg base CX0 1 "_law_draw" ["_law_pen_here", "_law_many"] spDraw) (c__law_pick : Fn P w K mg base CX0 2 "_law_pick" ["_law_pen_here", "_law_some"] spPick)
    (m_Ratio_2 : Mc P w K mg base CX0 2 "Ratio" C ["self", "over", "under"] (spRatio C) []) (m_Ratio_1 : Mc P w K mg base CX0 2 "Ratio" C ["self", "over", "under"] (spRatio C) [.int 1]) :
    FnG P w K mg base CX0 4 f fd ["_law_pen_here"] (spThing K (TL1 Pt)) := by
  refine funGC F sc__law_thing (fun vs H Q E h => ?_) (fun A fr s H vs Q E hr hg h => ?_)
  · obtain ⟨a, n, rfl, _⟩ := h; rfl
  · obtain ⟨a, n, rfl, W, hn, k⟩ := h
    have hmT : (Pt, lamQ) ∈ TL1 Pt := List.mem_cons_self
    have huT : ∀ p ∈ TL1 Pt, p.1 = Pt → p.2 = lamQ := fun p hp _ => by rw [List.mem_singleton.mp hp]
    refine ⟨_, (pss_cons (ps_set (i := 1) sc__law_thing.nd rfl (Or.inl rfl) (pe_lst (pa_cons pe_int (pa_cons pe_int (pa_cons (pe_un un_neg pe_int) (pa_cons pe_int (pa_cons (pe_op op_pow pe_int pe_int) (pa_cons (pe_op opAdd (pe_op op_pow pe_int pe_int) pe_int) (pa_cons (pe_op op_sub (pe_op op_pow pe_int pe_int) pe_int) (pa_cons (pe_un un_neg (pe_op op_pow pe_int pe_int)) (pa_cons pe_int (pa_cons pe_int (pa_cons (pe_f c__law_draw hr hg pass0 (pa_cons (pv 0) (pa_cons (pe_op op_pow pe_int pe_int) pa_nil))) pa_nil)))))))))))))
      (pss_cons (ps_set (i := 2) sc__law_thing.nd rfl (Or.inl rfl) (pe_lst (pa_cons pe_non (pa_cons pe_bl (pa_cons pe_bl (pa_cons (pe_tup pa_nil) (pa_cons (pe_tup (pa_cons pe_int pa_nil)) (pa_cons (pe_lst pa_nil) (pa_cons (pe_lst (pa_cons pe_int pa_nil)) (pa_cons pe_dnewK (pa_cons (pe_disp (pps_cons pe_str pe_int pps_nil) (by rfl) (by rfl) (fun z => by cases z) (by decide)) (pa_cons (pe_mkG m_Ratio_2 hr hg pass0 (pa_cons pe_int (pa_cons pe_int pa_nil))) (pa_cons (pe_mkG m_Ratio_1 hr hg pass0 (pa_cons pe_int pa_nil)) (pa_cons (pe_lamV TB rfl hmT huT rfl (by decide +kernel)) pa_nil))))))))))))))
      (pss_one (ps_ret (pe_f c__law_pick hr hg pass0 (pa_cons (pv 0) (pa_cons (pe_op opAdd (pv 1) (pv 2)) pa_nil))))))), ?_⟩
    tm_at "s"
    refine ⟨a, n, _, rfl, by decide, by decide, W.pen, by unfold lim at *; omega, fun d H1 d0 d1 p1 k1 => ?_⟩
    have W1 : Wo (TL1 Pt) H1 a (n + 1) := W.keep p1 k1
    tm_at "s"
    refine s_new (Nat.le_of_lt (small1000 (by simp))) fun l1 H2 hl1 e2 h1 => ?_
    tm_at "s"
    refine s_new (by decide) fun q1 H3 hq1 e3 g1 => ?_
    tm_at "s"
    refine s_new (by decide) fun q2 H4 hq2 e4 g2 => ?_
    tm_at "s"
    refine s_new (by decide) fun q3 H5 hq3 e5 g3 => ?_
    tm_at "s"
    refine s_new (by decide) fun q4 H6 hq4 e6 g4 => ?_
    tm_at "s"
    refine s_dnew fun q5 H7 hq5 e7 g5 => ?_
    refine s_disp1 (k := .inr "a") (v' := .int 1) (fun H' R h => h) (fun H' R h => h) fun q6 H8 hq6 e8 g6 => ?_
    have W8 : Wo (TL1 Pt) H8 a (n + 1) := (((((((W1.ex e2).ex e3).ex e4).ex e5).ex e6).ex e7).ex e8)
    tm_at "s"
    intro q7 x7 n7 m7 d7
    refine ⟨q7, x7, 1, 2, rfl, by decide, by decide, upd_same, fun H9 o9 g7 => ⟨rfl, ?_⟩⟩
    have e9 : Ex H8 H9 := fun b o e => by
      rw [o9 b (ne_of_none e n7), upd_ne (ne_of_none e n7), upd_ne (ne_of_none e m7)]; exact e
    tm_at "s"
    intro q8 x8 n8 m8 d8
    refine ⟨q8, x8, 3, 1, rfl, by decide, by decide, upd_same, fun H10 o10 g8 => ⟨rfl, ?_⟩⟩
    have e10 : Ex H9 H10 := fun b o e => by
      rw [o10 b (ne_of_none e n8), upd_ne (ne_of_none e n8), upd_ne (ne_of_none e m8)]; exact e
    have W10 : Wo (TL1 Pt) H10 a (n + 1) := (W8.ex e9).ex e10
    tm_at "s"
    refine ⟨W10.tabs, fun q9 H11 hq9 e11 t11 g9 => ?_⟩
    have u11 : ∀ {b : Addr} {o : HO}, H10 b = some o → (∀ ps, o ≠ .tbl ps) → H11 b = some o := fun h z => e11 _ _ h z
    tm_at "s"
    refine s_new (Nat.le_of_lt (small1000 (by simp))) fun l2 H12 hl2 e12 h2 => ?_
    have lift : ∀ {b : Addr} {o : HO}, H3 b = some o → (∀ ps, o ≠ .tbl ps) → H12 b = some o := fun h z => e12 _ _ (u11 (e10 _ _ (e9 _ _ (e8 _ _ (e7 _ _ (e6 _ _ (e5 _ _ (e4 _ _ h))))))) z)
    have p12 : Pen H12 a (n + 1) := by
      obtain ⟨cc, ns, z1, z2, z3⟩ := W10.pen
      exact ⟨cc, ns, e12 _ _ (u11 z1 fun ps z => by unfold PenO at z; cases z), e12 _ _ (u11 z2 fun ps z => by unfold ScO at z; cases z), z3⟩
    have W12 : Wo (TL1 Pt) H12 a (n + 1) := ⟨p12, t11.ext e12⟩
    have f1 := lift (e3 _ _ h1) fun ps z => nomatch z
    have f2 := lift g1 fun ps z => nomatch z
    have f3 := e12 _ _ (u11 (e10 _ _ (e9 _ _ (e8 _ _ (e7 _ _ (e6 _ _ (e5 _ _ g2)))))) fun ps z => nomatch z)
    have f4 := e12 _ _ (u11 (e10 _ _ (e9 _ _ (e8 _ _ (e7 _ _ (e6 _ _ g3))))) fun ps z => nomatch z)
    have f5 := e12 _ _ (u11 (e10 _ _ (e9 _ _ (e8 _ _ (e7 _ _ g4)))) fun ps z => nomatch z)
    have f6 := e12 _ _ (u11 (e10 _ _ (e9 _ _ (e8 _ _ g5))) fun ps z => nomatch z)
    have f7 := e12 _ _ (u11 (e10 _ _ (e9 _ _ g6)) fun ps z => nomatch z)
    have f8 := e12 _ _ (u11 (e10 _ _ g7) fun ps z => nomatch z)
    have f9 := e12 _ _ (u11 g8 fun ps z => nomatch z)
    have f10 := e12 _ _ g9
    tm_at "s"
    refine s_addL f1 h2 (Nat.le_of_lt (small1000 (by simp))) fun l3 H13 hl3 e13 h3 => ?_
    have W13 := W12.ex e13
    refine ⟨a, l3, n + 1, _, rfl, h3, by simp, by simp, W13.pen, by unfold lim at *; omega, fun v H14 hv p14 k14 => ?_⟩
    have W14 := W13.keep p14 k14
    have up : ∀ {b : Addr} {o : HO}, H12 b = some o → (∀ c n, o ≠ PenO a c n) → H14 b = some o := fun h z => k14 _ _ (W12.pen.ne h z) (e13 _ _ h)
    refine k v H14 (fun b o hb ho h => ?_) W14 ?_
    · have nt : ∀ ps, o ≠ .tbl ps := fun ps z => by rw [z] at ho; exact ho
      exact k14 _ _ hb (e13 _ _ (lift (e3 _ _ (e2 _ _ (k1 _ _ hb h))) nt))
    · simp only [List.cons_append, List.nil_append, List.mem_cons, List.not_mem_nil, or_false] at hv
      rcases hv with rfl | rfl | rfl | rfl | rfl | rfl | rfl | rfl | rfl | rfl | rfl | rfl | rfl | rfl | rfl | rfl | rfl | rfl | rfl | rfl | rfl | rfl | rfl
      · exact th_int _
      · exact th_int _
      · exact th_int _
      · exact th_int _
      · exact th_int _
      · exact th_int _
      · exact th_int _
      · exact th_int _
      · exact th_int _
      · exact th_int _
      · exact th_int _
      · exact th_non
      · exact th_bl _
      · exact th_bl _
      · exact th_tup (up f2 (notPen trivial))
      · exact th_tup (up f3 (notPen trivial))
      · exact th_lst (up f4 (notPen trivial))
      · exact th_lst (up f5 (notPen trivial))
      · exact th_dct (up f6 (notPen trivial))
      · exact th_dct (up f7 (notPen trivial))
      · exact th_ins TX (up f8 (notPen trivial))
      · exact th_ins TX (up f9 (notPen trivial))
      · exact th_fn (up f10 fun _ _ => fnV_pen)
end
end K02
end
section
namespace K02
open PySem PySem.Spec PyProof.Rows L2 L3 LamX
section
variable {P : Program} {w : World} {K : PySem.W.Frag} {mg : Str → Option Value} {base : Heap} {aW C : Addr}
/-- a word -/
def Wd (z : Str) : Prop := z.length ≤ 100 ∧ ∀ c ∈ z.cps.toList, c < 1114112
theorem wd_of {z : Str} (h : (decide (z.length ≤ 100) && z.cps.toList.all fun c => decide (c < 1114112)) = true) : Wd z := by
  rw [Bool.and_eq_true, decide_eq_true_eq] at h
  exact ⟨h.1, fun c hc => of_decide_eq_true (List.all_eq_true.mp h.2 c hc)⟩
theorem join_one (cs : List Nat) : (Txt.join "" (cs.map oneS)).cps.toList = cs := by
  have h : ∀ l : List Nat, TL.joinL [] (l.map fun c => [c]) = l := by
    intro l
    induction l with
    | nil => rfl
    | cons a r ih =>
      cases r with
      | nil => rfl
      | cons b r => show [a] ++ ([] ++ TL.joinL [] ((b :: r).map fun c => [c])) = _; rw [ih]; rfl
  have e : (cs.map oneS).map TL.tl = cs.map fun c => [c] := by rw [List.map_map]; rfl
  have := TL.tl_join "" (cs.map oneS)
  rw [e] at this
  rw [TL.join_eq]
  exact this.trans (h cs)
theorem len_ones (cs : List Nat) : ((cs.map oneS).map (fun x => x.length)).sum = cs.length := by
  induction cs with
  | nil => rfl
  | cons c r ih => rw [List.map_cons, List.map_cons, List.sum_cons, ih, List.length_cons]; show 1 + _ = _; omega
theorem wd_join {cs : List Nat} (h1 : cs.length ≤ 100) (h2 : ∀ c ∈ cs, c < 1114112) : Wd (Txt.join "" (cs.map oneS)) := by
  refine ⟨?_, ?_⟩
  · rw [← len_codes, join_one]; exact h1
  · rw [join_one]; exact h2
theorem wd_num {i : Int} (h : i.natAbs < 10 ^ 20) : Wd (strOf i) := by
  by_cases h0 : 0 ≤ i
  · obtain ⟨m, rfl⟩ := Int.eq_ofNat_of_zero_le h0
    have e := strOf_nat m
    have hl := TL.numL_len (n := m) (k := 20) (by decide) (by simpa using h)
    refine ⟨by rw [← len_codes, e]; omega, fun c hc => ?_⟩
    rw [e] at hc
    have := TL.numL_digits m c hc
    omega
  · obtain ⟨m, rfl⟩ : ∃ m : Nat, i = -(m : Int) := ⟨i.natAbs, by omega⟩
    have e := strOf_neg (m := m) (by omega)
    have hl := TL.numL_len (n := m) (k := 20) (by decide) (by simpa using h)
    refine ⟨by rw [← len_codes, e, List.length_cons]; omega, fun c hc => ?_⟩
    rw [e] at hc
    rcases List.mem_cons.mp hc with rfl | hc
    · decide
    · have := TL.numL_digits m c hc
      omega
theorem log_small {i : Int} (h : i.natAbs < 10 ^ 20) : i.natAbs.log2 < 1920 := by
  by_cases h0 : i.natAbs = 0
  · rw [h0]; decide
  · rw [Nat.log2_lt h0]
    exact Nat.lt_of_lt_of_le h (Nat.le_trans (show 10 ^ 20 ≤ 2 ^ 100 by decide) (Nat.pow_le_pow_right (by decide) (by decide)))
def spWord : Sp := fun vs H Q _ => ∃ a n, vs = [.ref a] ∧ Pen H a n ∧ n + 20 ≤ lim ∧ ∀ z H' m, (∀ b o, b ≠ a → H b = some o → H' b = some o) → Pen H' a m → m ≤ n + 20 → Wd z → Q (.str z) H'
theorem ok_word {f : Addr} {fd : FuncData} (F : Fun K "_law_word" "_law_word" s__law_word f fd) (T : Txt K mg aW C)
    (c__law_draw : Fn P w K mg base CX0 1 "_law_draw" ["_law_pen_here", "_law_many"] spDraw) (c__law_pick : Fn P w K mg base CX0 2 "_law_pick" ["_law_pen_here", "_law_some"] spPick) :
    FnG P w K mg base CX0 3 f fd ["_law_pen_here"] spWord := by
  refine funG F sc__law_word (fun vs H Q E h => ?_) (fun cd A fr s H vs Q E hr hg h => ?_)
  · obtain ⟨a, n, rfl, _⟩ := h; rfl
  · obtain ⟨a, n, rfl, hp, hn, k⟩ := h
    refine ⟨_, (pss_cons (ps_set (i := 1) sc__law_word.nd rfl (Or.inl rfl) (pe_lst (pa_cons pe_str (pa_cons pe_str (pa_cons pe_str (pa_cons pe_str (pa_cons pe_str (pa_cons pe_str (pa_cons pe_str (pa_cons pe_str (pa_cons pe_str (pa_cons pe_str (pa_cons pe_str (pa_cons pe_str (pa_cons pe_str pa_nil)))))))))))))))
      (pss_cons (ps_set (i := 1) sc__law_word.nd rfl (Or.inl rfl) (pe_op opAdd (pv 1) (pe_lst (pa_cons pe_str (pa_cons pe_str (pa_cons pe_str (pa_cons pe_str (pa_cons pe_str (pa_cons pe_str (pa_cons pe_str (pa_cons pe_str (pa_cons pe_str (pa_cons pe_str pa_nil)))))))))))))
      (pss_cons (ps_set (i := 1) sc__law_word.nd rfl (Or.inl rfl) (pe_op opAdd (pv 1) (pe_lst (pa_cons pe_str (pa_cons pe_str (pa_cons pe_str (pa_cons pe_str (pa_cons pe_str (pa_cons pe_str pa_nil)))))))))
      (pss_cons (ps_set (i := 1) sc__law_word.nd rfl (Or.inl rfl) (pe_op opAdd (pv 1) (pe_lst (pa_cons pe_str (pa_cons pe_str (pa_cons pe_str (pa_cons pe_str (pa_cons pe_str (pa_cons (pe_op opAdd pe_str (pe_op opMul pe_str pe_int)) (pa_cons (pe_op opAdd pe_str (pe_op opMul pe_str pe_int)) (pa_cons (pe_op opMul pe_str pe_int) pa_nil)))))))))))
      (pss_cons (ps_set (i := 2) sc__law_word.nd rfl (Or.inl rfl) (pe_join pe_str (pe_lc (own := [("_law_lap", 3)]) (g := gName 3) (tt := tYes) (by rfl) sc__law_word.nd (pi_range1 (by rfl) T.b_range (pa_cons (pe_op opAdd pe_int (pe_f c__law_draw hr hg pass0 (pa_cons (pv 0) (pa_cons pe_int pa_nil)))) pa_nil)) (blkOk_by (own := [("_law_lap", 3)]) (N := names__law_word) (sc := defScope s__law_word) (by decide +kernel)) (fun _ _ _ _ _ => pg_name (i := 3) sc__law_word.nd rfl (Or.inl rfl)) (fun _ _ _ _ _ => pts_nil) (fun _ _ _ _ _ => (pe_f c__law_pick hr hg pass0 (pa_cons (pv 0) (pa_cons (pe_callTy (KX.callList (K := K) rfl rfl) (by rfl) T.b_list (by decide +kernel) (pa_cons pe_str pa_nil)) pa_nil)))))))
      (pss_one (ps_ret (pe_f c__law_pick hr hg pass0 (pa_cons (pv 0) (pa_cons (pe_op opAdd (pv 1) (pe_lst (pa_cons (pv 2) (pa_cons (pv 2) (pa_cons (pv 2) (pa_cons (pe_callTy call_str_int (by rfl) T.b_str (by decide +kernel) (pa_cons (pe_op op_sub (pe_f c__law_draw hr hg pass0 (pa_cons (pv 0) (pa_cons (pe_op op_pow pe_int pe_int) pa_nil))) (pe_op op_pow pe_int pe_int)) pa_nil)) pa_nil)))))) pa_nil)))))))))), ?_⟩
    have np : ∀ {H : Hp} {m : Nat} {b : Addr} {xs : List V}, Pen H a m → H b = some (.lst xs) → b ≠ a := fun p h => p.ne h (notPen trivial)
    have pex : ∀ {H H' : Hp} {m : Nat}, Pen H a m → Ex H H' → Pen H' a m := fun p e => by
      obtain ⟨cc, ns, z1, z2, z3⟩ := p
      exact ⟨cc, ns, e _ _ z1, e _ _ z2, z3⟩
    tm_at "s"
    refine s_new (Nat.le_of_lt (small1000 (by simp))) fun l1 H1 _ e1 h1 => ?_
    tm_at "s"
    refine s_new (Nat.le_of_lt (small1000 (by simp))) fun l2 H2 _ e2 h2 => ?_
    tm_at "s"
    refine s_addL (e2 _ _ h1) h2 (Nat.le_of_lt (small1000 (by simp))) fun l3 H3 _ e3 h3 => ?_
    tm_at "s"
    refine s_new (Nat.le_of_lt (small1000 (by simp))) fun l4 H4 _ e4 h4 => ?_
    tm_at "s"
    refine s_addL (e4 _ _ h3) h4 (Nat.le_of_lt (small1000 (by simp))) fun l5 H5 _ e5 h5 => ?_
    tm_at "s"
    refine s_mulS (by decide) (by decide) rfl ?_
    refine s_addS (by rw [repS_len]; decide) ?_
    tm_at "s"
    refine s_mulS (by decide) (by decide) rfl ?_
    refine s_addS (by rw [repS_len]; decide) ?_
    tm_at "s"
    refine s_mulS (by decide) (by decide) rfl ?_
    tm_at "s"
    refine s_new (Nat.le_of_lt (small1000 (by simp))) fun l6 H6 _ e6 h6 => ?_
    tm_at "s"
    refine s_addL (e6 _ _ h5) h6 (Nat.le_of_lt (small1000 (by simp))) fun l7 H7 _ e7 h7 => ?_
    have ex7 : Ex H H7 := e1.trans (e2.trans (e3.trans (e4.trans (e5.trans (e6.trans e7)))))
    clear e1 e2 e3 e4 e5 e6 e7 h1 h2 h3 h4 h5 h6
    have hp7 : Pen H7 a n := pex hp ex7
    tm_at "s"
    refine ⟨a, n, 10, rfl, by decide, by decide, hp7, by unfold lim at *; omega, fun d8 H8 d0 d1 p8 k8 => ?_⟩
    tm_at "s"
    refine ⟨by omega, by omega, ?_⟩
    have hN : (1 + d8).toNat ≤ 10 := by omega
    refine lcPen (a := a) (n := n + 1) (q := 1) (fun v => ∃ c : Nat, v = .str (oneS c) ∧ c < 1114112) p8 (by rw [sizeLine_eq]; omega) (fun x => rfl) ?_ ?_
    · intro i H9 m R hi k9 p9 hm kR
      tm_at "s"
      refine s_listS (by decide) fun q H10 hq e10 h10 => ?_
      tm_at "s"
      have p10 := pex p9 e10
      refine ⟨a, q, m, _, rfl, h10, by decide, by decide, p10, by unfold lim at *; omega, fun v H11 hv p11 k11 => ?_⟩
      refine kR v H11 _ (fun b o hb ho => k11 _ _ hb (e10 _ _ ho)) p11 (Nat.le_refl _) ?_
      obtain ⟨c, hc, rfl⟩ := List.mem_map.mp hv
      exact ⟨c, rfl, (by decide : ∀ c ∈ (Str.ofString "abcxyzqrw").cps.toList, c < 1114112) c hc⟩
    · intro Dl H9 m ys hDl k9 p9 hm hlen hy h9
      obtain ⟨cs, hcs, hcl, hcb⟩ : ∃ cs : List Nat, ys = (cs.map oneS).map V.str ∧ cs.length = ys.length ∧ ∀ c ∈ cs, c < 1114112 := by
        clear h9 hlen
        induction ys with
        | nil => exact ⟨[], rfl, rfl, by simp⟩
        | cons y r ih =>
          obtain ⟨cs, e1, e2, e3⟩ := ih (fun z hz => hy z (List.mem_cons_of_mem _ hz))
          obtain ⟨c, rfl, hc⟩ := hy y List.mem_cons_self
          refine ⟨c :: cs, by rw [e1]; rfl, by simp [e2], fun z hz => ?_⟩
          rcases List.mem_cons.mp hz with rfl | hz
          · exact hc
          · exact e3 z hz
      subst hcs
      have hcl10 : cs.length ≤ 10 := by omega
      have hsum := len_ones cs
      refine ⟨_, Dl, cs.map oneS, rfl, rfl, .inl (.inl (.inl h9)), ?_, ?_⟩
      · rw [hsum, List.length_map]
        show cs.length + cs.length * 0 ≤ _
        omega
      have wl := wd_join (cs := cs) (by omega) hcb
      generalize Txt.join (Str.ofString "") (cs.map oneS) = lt at wl ⊢
      have l9 : H9 l7 = _ := k9 _ _ (np p8 (k8 _ _ (np hp7 h7) h7)) (k8 _ _ (np hp7 h7) h7)
      tm_at "s"
      refine ⟨a, m, 10 ^ 12, rfl, by decide, by decide, p9, by unfold lim at *; omega, fun d10 H10 d0' d1' p10 k10 => ?_⟩
      tm_at "s"
      have hab : (d10 - 10 ^ (Int.toNat 6)).natAbs < 10 ^ 20 := by
        have e6 : (10 : Int) ^ (Int.toNat 6) = 1000000 := by decide
        have e12 : (10 : Int) ^ 12 = 1000000000000 := by decide
        rw [e6]; rw [e12] at d1'
        show _ < 100000000000000000000
        omega
      refine ⟨log_small hab, ?_⟩
      tm_at "s"
      refine s_new (Nat.le_of_lt (small1000 (by simp))) fun l11 H11 hq11 e11 h11 => ?_
      tm_at "s"
      have l10 := k10 _ _ (np p9 l9) l9
      refine s_addL (e11 _ _ l10) h11 (Nat.le_of_lt (small1000 (by simp))) fun l12 H12 hq12 e12 h12 => ?_
      tm_at "s"
      have p12 := pex (pex p10 e11) e12
      refine ⟨a, l12, m + 1, _, rfl, h12, by simp, by simp, p12, by unfold lim at *; omega, fun v H13 hv p13 k13 => ?_⟩
      have hv' : ∃ z, v = .str z ∧ Wd z := by
        simp only [List.cons_append, List.nil_append, List.append_assoc, List.mem_cons, List.not_mem_nil, or_false] at hv
        rcases hv with rfl | rfl | rfl | rfl | rfl | rfl | rfl | rfl | rfl | rfl | rfl | rfl | rfl | rfl | rfl | rfl | rfl | rfl | rfl | rfl | rfl | rfl | rfl | rfl | rfl | rfl | rfl | rfl | rfl | rfl | rfl | rfl | rfl | rfl | rfl | rfl | rfl | rfl | rfl | rfl | rfl
        all_goals first
          | exact ⟨_, rfl, wl⟩
          | exact ⟨_, rfl, wd_num hab⟩
          | exact ⟨_, rfl, wd_of (by decide +kernel)⟩
      obtain ⟨z, rfl, hz⟩ := hv'
      refine k z H13 _ (fun b o hb ho => ?_) p13 (by omega) hz
      exact k13 _ _ hb (e12 _ _ (e11 _ _ (k10 _ _ hb (k9 _ _ hb (k8 _ _ hb (ex7 _ _ ho))))))
end
end K02
end
section
namespace K02
open PySem PySem.Spec PyProof.Rows L2 L3 LamX
abbrev s__law_thing_right : Stmt := topS 32
abbrev names__law_thing_right : List Str := ["_law_thing_here", "_law_low", "_law_high", "_law_is_plain", "_law_told_so", "_law_due"]
theorem sc__law_thing_right : FnScope ["_law_thing_here", "_law_low", "_law_high", "_law_is_plain", "_law_told_so", "_law_due"] ["_law_thing_here", "_law_low", "_law_high"] (defScope s__law_thing_right) := ⟨rfl, rfl, rfl, by decide +kernel, rfl, by decide +kernel, by decide +kernel⟩
abbrev s__law_word_right : Stmt := topS 33
abbrev names__law_word_right : List Str := ["_law_wordy", "_law_low", "_law_high", "_law_written_here", "_law_inside", "_law_told_so"]
theorem sc__law_word_right : FnScope ["_law_wordy", "_law_low", "_law_high", "_law_written_here", "_law_inside", "_law_told_so"] ["_law_wordy", "_law_low", "_law_high"] (defScope s__law_word_right) := ⟨rfl, rfl, rfl, by decide +kernel, rfl, by decide +kernel, by decide +kernel⟩
section
variable {P : Program} {w : World} {K : PySem.W.Frag} {mg : Str → Option Value} {base : Heap} {aW C : Addr}
theorem ty_ex {H H' : Hp} (e : Ex H H') {x : V} {t : Value} (h : TyA K H x t) : TyA K H' x t := by
  cases h with
  | fn h => exact .fn (e _ _ h)
  | x h =>
    refine .x ?_
    cases h with
    | base h =>
      refine .base ?_
      cases h with
      | non => exact .non
      | bl x => exact .bl x
      | int x => exact .int x
      | str x => exact .str x
      | flt x => exact .flt x
      | lst h => exact .lst (e _ _ h)
      | frz h => exact .frz (e _ _ h)
      | tup h => exact .tup (e _ _ h)
      | dK h => exact .dK (e _ _ h)
      | dT h => exact .dT (e _ _ h)
      | ins h h1 h2 h3 h4 h5 => exact .ins (e _ _ h) h1 h2 h3 h4 h5
    | byt b => exact .byt b
    | set h => exact .set (e _ _ h)
    | kList h1 h2 => exact .kList h1 h2
    | kTuple h1 h2 => exact .kTuple h1 h2
    | kDict h1 h2 => exact .kDict h1 h2
    | fTuple h => exact .fTuple (e _ _ h)
    | fDict h => exact .fDict (e _ _ h)
theorem vk_ex {H H' : Hp} (e : Ex H H') {x : V} (h : Vk K H x) : Vk K H' x := by
  cases h with
  | int i => exact .int i
  | bl b => exact .bl b
  | str z h1 h2 => exact .str z h1 h2
  | odd h1 h2 h3 h4 h5 h6 => exact .odd (ty_ex e h1) h2 h3 h4 h5 h6
theorem odd_inB {x : V} (h : ∀ i, x ≠ .int i) (a b : Int) : inB x a b = false := by
  cases x <;> first | rfl | exact absurd rfl (h _)
theorem dT {p : Prop} [Decidable p] {Q : VK} {H : Hp} (h : p) (k : Q (.bl true) H) : Q (.bl (decide p)) H := by rw [decide_eq_true h]; exact k
def spTR (K : PySem.W.Frag) : Sp := fun vs H Q _ => ∃ x a b, vs = [x, .int a, .int b] ∧ Th K H x ∧ ∀ H', Ex H H' → Q (.bl true) H'
theorem ok_tr {f : Addr} {fd : FuncData} (F : Fun K "_law_thing_right" "_law_thing_right" s__law_thing_right f fd) (T : Txt K mg aW C)
    (c_is_integer : Fn P w K mg base CX0 1 "is_integer" ["value"] (spIsInteger K)) (c_is_within : Fn P w K mg base CX0 2 "is_within" ["value", "least", "most"] (spIsWithin K))
    (c_is_size : Fn P w K mg base CX0 3 "is_size" ["value"] (spIsSize K)) (c_is_name : Fn P w K mg base CX0 1 "is_name" ["value"] (spIsName K)) (c_number_of : Fn P w K mg base CX0 2 "number_of" ["word", "least", "most"] (spNumberOf K)) :
    FnG P w K mg base CX0 4 f fd ["_law_thing_here", "_law_low", "_law_high"] (spTR K) := by
  refine funG F sc__law_thing_right (fun vs H Q E h => ?_) (fun cd A fr s H vs Q E hr hg h => ?_)
  · obtain ⟨x, a, b, rfl, _⟩ := h; rfl
  · obtain ⟨x, a, b, rfl, hx, k⟩ := h
    refine ⟨_, (Evl.pss_cut (ps_set (i := 3) sc__law_thing_right.nd rfl (Or.inl rfl) (pe_and (pe_callB (KX.callIsi (K := K)) (by rfl) T.b_isinstance (by decide +kernel) (pa_cons (pv 0) (pa_cons (pe_bltn (v := .ty "int") (u := .type "int") (by rfl) T.b_int (by decide +kernel) rfl) pa_nil))) (pe_one (pe_not (pe_callB (KX.callIsi (K := K)) (by rfl) T.b_isinstance (by decide +kernel) (pa_cons (pv 0) (pa_cons (pe_bltn (v := .ty "bool") (u := .type "bool") (by rfl) T.b_bool (by decide +kernel) rfl) pa_nil)))))))
      (pss_cons (ps_set (i := 4) sc__law_thing_right.nd rfl (Or.inl rfl) (pe_lst (pa_cons (pe_f c_is_integer hr hg pass0 (pa_cons (pv 0) pa_nil)) (pa_cons (pe_f c_is_within hr hg pass0 (pa_cons (pv 0) (pa_cons (pv 1) (pa_cons (pv 2) pa_nil)))) (pa_cons (pe_f c_is_size hr hg pass0 (pa_cons (pv 0) pa_nil)) (pa_cons (pe_f c_is_name hr hg pass0 (pa_cons (pv 0) pa_nil)) pa_nil))))))
      (pss_cons (ps_expr (pe_bm PySem.F.plainAttrs_list PySem.F.slot_list_append PySem.F.type_list_append mt_append (pv 4) (pa_cons (pe_f c_number_of hr hg pass0 (pa_cons (pv 0) (pa_cons (pv 1) (pa_cons (pv 2) pa_nil)))) pa_nil)))
      (pss_cons (ps_set (i := 5) sc__law_thing_right.nd rfl (Or.inl rfl) (pe_lst (pa_cons (pv 3) (pa_cons (pe_and (pv 3) (pe_one (pe_chain op_le op_le (pv 1) (pv 0) (pv 2)))) (pa_cons (pe_and (pv 3) (pe_one (pe_chain op_le op_le pe_int (pv 0) (pe_op op_pow pe_int pe_int)))) (pa_cons pe_bl (pa_cons pe_non pa_nil)))))))
      (pss_one (ps_ret (pe_cmpR (KX.eqU (K := K) rfl hr.units) (pe_callB (KX.callRepr (K := K) rfl hg hr.units) (by rfl) T.b_repr (by decide +kernel) (pa_cons (pv 4) pa_nil)) (pe_callB (KX.callRepr (K := K) rfl hg hr.units) (by rfl) T.b_repr (by decide +kernel) (pa_cons (pv 5) pa_nil)) (nomark _)))))))), ?_⟩
    tm_at "s"
    refine s_cut (M := fun σ' H' => σ' = [some x, some (.int a), some (.int b), some (.bl (isI x)), none, none] ∧ H' = H) ?_ ?_
    · tm_at "s"
      cases hx.vk with
      | int i =>
        refine s_isiT (ty_int i) (b := true) (kit_ty (by decide +kernel)) ?_
        tm_at "s"
        refine s_isiT (ty_int i) (b := false) (kit_ty (by decide +kernel)) ?_
        tm_at "s"
        exact ⟨rfl, rfl⟩
      | bl b =>
        refine s_isiT (ty_bl b) (b := true) (kit_ty (by decide +kernel)) ?_
        tm_at "s"
        refine s_isiT (ty_bl b) (b := true) (kit_ty (by decide +kernel)) ?_
        tm_at "s"
        exact ⟨rfl, rfl⟩
      | str z hz hzc => exact absurd rfl (hx.ns z)
      | odd ty h1 h2 h3 h4 h5 =>
        refine s_isiT ty h1 ?_
        tm_at "s"
        rw [odd_isI h4]
        exact ⟨rfl, rfl⟩
    · rintro σ' H' ⟨rfl, e⟩
      subst e
      tm_at "s"
      refine ⟨x, rfl, hx.vk, ?_⟩
      tm_at "s"
      refine ⟨x, a, b, rfl, hx.vk, ?_⟩
      tm_at "s"
      refine ⟨x, rfl, hx.vk, ?_⟩
      tm_at "s"
      refine ⟨x, rfl, hx.vk, fun H1 e1 => ?_⟩
      tm_at "s"
      refine s_new (Nat.le_of_lt (small1000 (by simp))) fun l2 H2 hl2 e2 h2 => ?_
      tm_at "s"
      refine s_tyL h2 ?_
      tm_at "s"
      refine ⟨x, a, b, rfl, vk_ex (e1.trans e2) hx.vk, fun H3 e3 => ?_⟩
      tm_at "s"
      refine s_app (e3 _ _ h2) (small1000 (by simp)) ?_
      have hno : numOf x a b = .non := odd_numOf hx.ns
      have hnm : nmB x = false := odd_nmB hx.ns
      rw [hno, hnm]
      have ue : Ex H' (upd H3 l2 (.lst ([V.bl (isI x), V.bl (inB x a b), V.bl (inB x 1 (10 ^ 30)), V.bl false] ++ [V.non]))) := fun b o hb => by
        rw [upd_ne (ne_of_none (e1 _ _ hb) hl2)]
        exact e3 _ _ (e2 _ _ (e1 _ _ hb))
      have hu : (upd H3 l2 (.lst ([V.bl (isI x), V.bl (inB x a b), V.bl (inB x 1 (10 ^ 30)), V.bl false] ++ [V.non]))) l2 = _ := upd_same
      generalize (upd H3 l2 (.lst ([V.bl (isI x), V.bl (inB x a b), V.bl (inB x 1 (10 ^ 30)), V.bl false] ++ [V.non]))) = H4 at ue hu
      have fin : ∀ (l5 : Addr) (H5 : Hp), Ex H4 H5 → H5 l5 = some (.lst [V.bl (isI x), V.bl (inB x a b), V.bl (inB x 1 (10 ^ 30)), V.bl false, V.non]) →
          (tRet (tOp (rEqU K) (tCB (rRepr K) (tCons (tVar 4) tNil)) (tCB (rRepr K) (tCons (tVar 5) tNil))) : TS) { nx := fun x H' => Q V.non H', rt := Q } [some x, some (V.int a), some (V.int b), some (V.bl (isI x)), some (.ref l2), some (.ref l5)] H5 := by
        intro l5 H5 e5 h5
        tm_at "s"
        refine s_reprF (e5 _ _ hu) rfl (by simp) ?_
        tm_at "s"
        refine s_reprF h5 rfl (by simp) ?_
        tm_at "s"
        exact dT rfl (k H5 (ue.trans e5))
      have odd : (∀ i, x ≠ .int i) → isI x = false ∧ ∀ a b, inB x a b = false := fun h4 => ⟨odd_isI h4, odd_inB h4⟩
      by_cases hi : ∃ i, x = .int i
      · obtain ⟨i, rfl⟩ := hi
        rw [show isI (V.int i) = true from rfl, show inB (V.int i) a b = (decide (a ≤ i) && decide (i ≤ b)) from rfl, show inB (V.int i) 1 (10 ^ 30) = (decide (1 ≤ i) && decide (i ≤ 10 ^ 30)) from rfl] at fin
        rw [show isI (V.int i) = true from rfl]
        tm_at "s"
        refine iteB (fun h1 => ?_) (fun h1 => ?_)
        · rw [h1, Bool.true_and] at fin
          tm_at "s"
          refine iteB (fun h2 => ?_) (fun h2 => ?_)
          · rw [h2, Bool.true_and] at fin
            tm_at "s"
            refine s_new (Nat.le_of_lt (small1000 (by simp))) fun l5 H5 hl5 e5 h5 => ?_
            exact fin l5 H5 e5 h5
          · rw [h2, Bool.false_and] at fin
            tm_at "s"
            refine s_new (Nat.le_of_lt (small1000 (by simp))) fun l5 H5 hl5 e5 h5 => ?_
            exact fin l5 H5 e5 h5
        · rw [h1, Bool.false_and] at fin
          tm_at "s"
          refine iteB (fun h2 => ?_) (fun h2 => ?_)
          · rw [h2, Bool.true_and] at fin
            tm_at "s"
            refine s_new (Nat.le_of_lt (small1000 (by simp))) fun l5 H5 hl5 e5 h5 => ?_
            exact fin l5 H5 e5 h5
          · rw [h2, Bool.false_and] at fin
            tm_at "s"
            refine s_new (Nat.le_of_lt (small1000 (by simp))) fun l5 H5 hl5 e5 h5 => ?_
            exact fin l5 H5 e5 h5
      · obtain ⟨e0, e0'⟩ := odd fun i z => hi ⟨i, z⟩
        rw [e0] at fin ⊢
        rw [e0', e0'] at fin
        tm_at "s"
        refine s_new (Nat.le_of_lt (small1000 (by simp))) fun l5 H5 hl5 e5 h5 => ?_
        exact fin l5 H5 e5 h5
def spWR : Sp := fun vs H Q _ => ∃ z a b, vs = [.str z, .int a, .int b] ∧ Wd z ∧ ∀ H', Ex H H' → Q (.bl true) H'
def insV (z : Str) (a b : Int) : V := match wrOf z with | .int n => if a ≤ n ∧ n ≤ b then V.int n else .non | _ => .non
theorem wr_cases (z : Str) : wrOf z = .non ∨ ∃ n, wrOf z = .int n ∧ strOf n = z := by
  unfold wrOf
  split
  · rename_i h; exact .inr ⟨_, rfl, h.2.2⟩
  · exact .inl rfl
theorem ins_fit {z : Str} {a b : Int} (hz : Wd z) : fitF (insV z a b) = true := by
  unfold insV wrOf
  by_cases h : (figsOf z).cps.toList.isEmpty = false ∧ (figsOf z).cps.toList.all isDig = true ∧ strOf (valOf z) = z
  · rw [if_pos h]
    show fitF (if a ≤ valOf z ∧ valOf z ≤ b then V.int (valOf z) else .non) = true
    split
    · exact decide_eq_true (val_bits h.2.1 (Nat.le_trans hz.1 (by decide)))
    · rfl
  · rw [if_neg h]; rfl
theorem ok_wr {f : Addr} {fd : FuncData} (F : Fun K "_law_word_right" "_law_word_right" s__law_word_right f fd) (T : Txt K mg aW C)
    (c_is_integer : Fn P w K mg base CX0 1 "is_integer" ["value"] (spIsInteger K)) (c_is_within : Fn P w K mg base CX0 2 "is_within" ["value", "least", "most"] (spIsWithin K))
    (c_is_size : Fn P w K mg base CX0 3 "is_size" ["value"] (spIsSize K)) (c_is_name : Fn P w K mg base CX0 1 "is_name" ["value"] (spIsName K)) (c_number_of : Fn P w K mg base CX0 2 "number_of" ["word", "least", "most"] (spNumberOf K))
    (c__law_written : Fn P w K mg base CX0 1 "_law_written" ["_law_wordy"] spWritten) (c__law_is_name : Fn P w K mg base CX0 1 "_law_is_name" ["_law_wordy"] spLIsName) :
    FnG P w K mg base CX0 4 f fd ["_law_wordy", "_law_low", "_law_high"] spWR := by
  refine funG F sc__law_word_right (fun vs H Q E h => ?_) (fun cd A fr s H vs Q E hr hg h => ?_)
  · obtain ⟨x, a, b, rfl, _⟩ := h; rfl
  · obtain ⟨z, a, b, rfl, hz, k⟩ := h
    have hk : ∀ H, Vk K H (.str z) := fun H => .str z (Nat.le_trans hz.1 (by decide)) (List.all_eq_true.mpr fun c hc => decide_eq_true (hz.2 c hc))
    refine ⟨_, (pss_cons (ps_set (i := 3) sc__law_word_right.nd rfl (Or.inl rfl) (pe_f c__law_written hr hg pass0 (pa_cons (pv 0) pa_nil)))
      (Evl.pss_cut (ps_set (i := 4) sc__law_word_right.nd rfl (Or.inl rfl) (pe_ifExp (PW.pt (pw_and (pt_cmpR opIsNot (pv 3) pe_non (nomark _)) (pw_and1 (pt_chain op_le op_le (pv 1) (pv 3) (pv 2))))) (pv 3) pe_non))
      (pss_cons (ps_set (i := 5) sc__law_word_right.nd rfl (Or.inl rfl) (pe_lst (pa_cons (pe_f c_is_integer hr hg pass0 (pa_cons (pv 0) pa_nil)) (pa_cons (pe_f c_is_within hr hg pass0 (pa_cons (pv 0) (pa_cons (pv 1) (pa_cons (pv 2) pa_nil)))) (pa_cons (pe_f c_is_size hr hg pass0 (pa_cons (pv 0) pa_nil)) (pa_cons (pe_f c_is_name hr hg pass0 (pa_cons (pv 0) pa_nil)) pa_nil))))))
      (pss_cons (ps_expr (pe_bm PySem.F.plainAttrs_list PySem.F.slot_list_append PySem.F.type_list_append mt_append (pv 5) (pa_cons (pe_f c_number_of hr hg pass0 (pa_cons (pv 0) (pa_cons (pv 1) (pa_cons (pv 2) pa_nil)))) pa_nil)))
      (pss_one (ps_ret (pe_cmpR (KX.eqU (K := K) rfl hr.units) (pe_callB (KX.callRepr (K := K) rfl hg hr.units) (by rfl) T.b_repr (by decide +kernel) (pa_cons (pv 5) pa_nil)) (pe_callB (KX.callRepr (K := K) rfl hg hr.units) (by rfl) T.b_repr (by decide +kernel) (pa_cons (pe_lst (pa_cons pe_bl (pa_cons pe_bl (pa_cons pe_bl (pa_cons (pe_f c__law_is_name hr hg pass0 (pa_cons (pv 0) pa_nil)) (pa_cons (pv 4) pa_nil)))))) pa_nil)) (nomark _)))))))), ?_⟩
    tm_at "s"
    refine ⟨z, rfl, Nat.le_trans hz.1 (by decide), hz.2, fun H1 e1 => ?_⟩
    tm_at "s"
    refine s_cut (M := fun σ' H' => σ' = [some (.str z), some (.int a), some (.int b), some (wrOf z), some (insV z a b), none] ∧ H' = H1) ?_ ?_
    · tm_at "s"
      rcases wr_cases z with h | ⟨n, h, _⟩
      · have : insV z a b = .non := by unfold insV; rw [h]
        rw [h, this]
        tm_at "s"
        exact ⟨rfl, rfl⟩
      · have : insV z a b = if a ≤ n ∧ n ≤ b then V.int n else .non := by unfold insV; rw [h]
        rw [h, this]
        tm_at "s"
        rw [show (!decide (V.int n = V.non)) = true from by rw [decide_eq_false (fun q => nomatch q)]; rfl]
        tm_at "s"
        refine iteB (fun h1 => ?_) (fun h1 => ?_)
        · have h1 := of_decide_eq_true h1
          tm_at "s"
          refine iteD (fun h2 => ?_) (fun h2 => ?_)
          · tm_at "s"
            rw [if_pos ⟨h1, h2⟩]
            exact ⟨rfl, rfl⟩
          · tm_at "s"
            rw [if_neg fun q => h2 q.2]
            exact ⟨rfl, rfl⟩
        · have h1 := of_decide_eq_false h1
          tm_at "s"
          rw [if_neg fun q => h1 q.1]
          exact ⟨rfl, rfl⟩
    · rintro σ' H' ⟨rfl, e⟩
      subst e
      tm_at "s"
      refine ⟨_, rfl, hk _, ?_⟩
      tm_at "s"
      refine ⟨_, a, b, rfl, hk _, ?_⟩
      tm_at "s"
      refine ⟨_, rfl, hk _, ?_⟩
      tm_at "s"
      refine ⟨_, rfl, hk _, fun H2 e2 => ?_⟩
      tm_at "s"
      refine s_new (Nat.le_of_lt (small1000 (by simp))) fun l3 H3 hl3 e3 h3 => ?_
      tm_at "s"
      refine s_tyL h3 ?_
      tm_at "s"
      refine ⟨_, a, b, rfl, hk _, fun H4 e4 => ?_⟩
      tm_at "s"
      refine s_app (e4 _ _ h3) (small1000 (by simp)) ?_
      have hno : numOf (.str z) a b = insV z a b := same_read z a b (Nat.le_trans hz.1 (by decide))
      rw [hno]
      have ue : Ex H' (upd H4 l3 (.lst ([V.bl (isI (.str z)), V.bl (inB (.str z) a b), V.bl (inB (.str z) 1 (10 ^ 30)), V.bl (nmB (.str z))] ++ [insV z a b]))) := fun b o hb => by
        rw [upd_ne (ne_of_none (e2 _ _ hb) hl3)]
        exact e4 _ _ (e3 _ _ (e2 _ _ hb))
      have hu : (upd H4 l3 (.lst ([V.bl (isI (.str z)), V.bl (inB (.str z) a b), V.bl (inB (.str z) 1 (10 ^ 30)), V.bl (nmB (.str z))] ++ [insV z a b]))) l3 = _ := upd_same
      generalize (upd H4 l3 (.lst ([V.bl (isI (.str z)), V.bl (inB (.str z) a b), V.bl (inB (.str z) 1 (10 ^ 30)), V.bl (nmB (.str z))] ++ [insV z a b]))) = H5 at ue hu
      have hfit := ins_fit (a := a) (b := b) hz
      generalize insV z a b = iv at hu hfit
      tm_at "s"
      refine s_reprF hu (by show (true && (true && (true && (true && (fitF iv && true))))) = true; rw [hfit]; rfl) (by simp) ?_
      tm_at "s"
      refine ⟨z, rfl, Nat.le_trans hz.1 (by decide), hz.2, fun H6 e6 => ?_⟩
      tm_at "s"
      refine s_new (Nat.le_of_lt (small1000 (by simp))) fun l7 H7 hl7 e7 h7 => ?_
      tm_at "s"
      refine s_reprF h7 (by show (true && (true && (true && (true && (fitF iv && true))))) = true; rw [hfit]; rfl) (by simp) ?_
      tm_at "s"
      exact dT rfl (k H7 (e1.trans (ue.trans (e6.trans e7))))
end
end K02
end
section
namespace K02
open PySem PySem.Spec PyProof.Rows L2 L3 LamX
abbrev s_law : Stmt := topS 34
abbrev names_law : List Str := ["_law_script", "_law_pen_here", "_law_lap", "_law_low", "_law_high", "_law_told_so"]
theorem sc_law : FnScope ["_law_script", "_law_pen_here", "_law_lap", "_law_low", "_law_high", "_law_told_so"] ["_law_script"] (defScope s_law) := ⟨rfl, rfl, rfl, by decide +kernel, rfl, by decide +kernel, by decide +kernel⟩
section
variable {P : Program} {w : World} {K : PySem.W.Frag} {mg : Str → Option Value} {base : Heap} {aW C : Addr}
theorem nines_codes : (repS (Str.ofString "9") (Int.toNat 1900)).cps.toList = List.replicate 1900 57 := repS_codes 57 1900
theorem vk_nines {H : Hp} : Vk K H (.str (repS (Str.ofString "9") (Int.toNat 1900))) := by
  refine .str _ ?_ ?_
  · rw [← len_codes, nines_codes, List.length_replicate]; decide
  · rw [nines_codes, List.all_eq_true]
    intro c hc
    rw [List.eq_of_mem_replicate hc]; decide
theorem num_nines : numOf (.str (repS (Str.ofString "9") (Int.toNat 1900))) 0 (10 ^ (Int.toNat 30)) = .non := by
  have hv : (10 : Int) ^ (Int.toNat 30) < L3.valOf (repS (Str.ofString "9") (Int.toNat 1900)) := by
    unfold L3.valOf
    rw [nines_codes, if_neg (by rw [show (1900 : Nat) = 1899 + 1 from rfl, List.replicate_succ]; decide)]
    have e := nines_val 1900
    have h1 : 10 ^ 31 ≤ 10 ^ 1900 := Nat.pow_le_pow_right (by decide) (by decide)
    generalize NumText.digitsVal (List.replicate 1900 57) = dv at e ⊢
    rw [← e] at h1
    have e31 : 10 ^ 31 = 10000000000000000000000000000000 := by decide
    have e30 : (10 : Int) ^ (Int.toNat 30) = 1000000000000000000000000000000 := by decide
    rw [e30]; rw [e31] at h1
    omega
  unfold numOf
  dsimp only
  split
  · rw [if_neg fun q => by have := q.2; omega]
  · rfl
def spLaw (K : PySem.W.Frag) (TT : List (Addr × Str)) : Sp := fun vs H Q _ => ∃ a ns, vs = [.ref a] ∧ SqL K H a (ns.map V.int) ∧ (ns : List Int).length ≤ 63 ∧ Tabs TT H ∧ ∀ H', Q (.bl true) H'
theorem ok_law {f Pt : Addr} {fd : FuncData} (F : Fun K "law" "law" s_law f fd) (T : Txt K mg aW C)
    (c_is_integer : Fn P w K mg base CX0 1 "is_integer" ["value"] (spIsInteger K)) (c_is_within : Fn P w K mg base CX0 2 "is_within" ["value", "least", "most"] (spIsWithin K))
    (c_is_size : Fn P w K mg base CX0 3 "is_size" ["value"] (spIsSize K)) (c_is_name : Fn P w K mg base CX0 1 "is_name" ["value"] (spIsName K)) (c_number_of : Fn P w K mg base CX0 2 "number_of" ["word", "least", "most"] (spNumberOf K))
    (c__law_pen : Fn P w K mg base CX0 1 "_law_pen" ["_law_script"] (spPen K))
    (c__law_draw : Fn P w K mg base CX0 1 "_law_draw" ["_law_pen_here", "_law_many"] spDraw) (c__law_pick : Fn P w K mg base CX0 2 "_law_pick" ["_law_pen_here", "_law_some"] spPick)
    (c__law_thing : Fn P w K mg base CX0 4 "_law_thing" ["_law_pen_here"] (spThing K (TL1 Pt))) (c__law_word : Fn P w K mg base CX0 3 "_law_word" ["_law_pen_here"] spWord)
    (c__law_thing_right : Fn P w K mg base CX0 4 "_law_thing_right" ["_law_thing_here", "_law_low", "_law_high"] (spTR K)) (c__law_word_right : Fn P w K mg base CX0 4 "_law_word_right" ["_law_wordy", "_law_low", "_law_high"] spWR) :
    FnG P w K mg base CX0 5 f fd ["_law_script"] (spLaw K (TL1 Pt)) := by
  refine funG F sc_law (fun vs H Q E h => ?_) (fun cd A fr s H vs Q E hr hg h => ?_)
  · obtain ⟨x, a, rfl, _⟩ := h; rfl
  · obtain ⟨a, ns, rfl, hs, hns, ht, k⟩ := h
    refine ⟨_, (pss_cons (ps_set (i := 1) sc_law.nd rfl (Or.inl rfl) (pe_f c__law_pen hr hg pass0 (pa_cons (pv 0) pa_nil)))
      (pss_cons (ps_for (passes_of rfl) rfl (pi_range1 (by rfl) T.b_range (pa_cons pe_int pa_nil)) (pg_name (i := 2) sc_law.nd rfl (Or.inl rfl)) (pss_cons (ps_set (i := 3) sc_law.nd rfl (Or.inl rfl) (pe_f c__law_pick hr hg pass0 (pa_cons (pv 1) (pa_cons (pe_lst (pa_cons pe_int (pa_cons pe_int (pa_cons (pe_un un_neg pe_int) (pa_cons (pe_un un_neg (pe_op op_pow pe_int pe_int)) (pa_cons pe_int pa_nil)))))) pa_nil))))
      (pss_cons (ps_set (i := 4) sc_law.nd rfl (Or.inl rfl) (pe_op opAdd (pv 3) (pe_f c__law_pick hr hg pass0 (pa_cons (pv 1) (pa_cons (pe_lst (pa_cons pe_int (pa_cons pe_int (pa_cons pe_int (pa_cons (pe_op op_pow pe_int pe_int) (pa_cons (pe_f c__law_draw hr hg pass0 (pa_cons (pv 1) (pa_cons pe_int pa_nil))) pa_nil)))))) pa_nil)))))
      (pss_cons (ps_if (PW.pt (pw_or (pt_not (pt_val (pe_f c__law_thing_right hr hg pass0 (pa_cons (pe_f c__law_thing hr hg pass0 (pa_cons (pv 1) pa_nil)) (pa_cons (pv 3) (pa_cons (pv 4) pa_nil)))))) (pw_or1 (pt_not (pt_val (pe_f c__law_word_right hr hg pass0 (pa_cons (pe_f c__law_word hr hg pass0 (pa_cons (pv 1) pa_nil)) (pa_cons (pv 3) (pa_cons (pv 4) pa_nil))))))))) (pss_one (ps_ret pe_bl)) pss_nil)
      (pss_one (ps_if (PW.pt (pw_or (pt_cmpR opIsNot (pe_fk c_is_within hr hg pass0 (pk_cons (pv 3) (pk_cons (pv 3) (pk_cons (pv 4) pk_nil)))) pe_bl (nomark _)) (pw_or1 (pt_cmpR opIsNot (pe_f c_is_within hr hg pass0 (pa_cons (pe_op opAdd (pv 4) pe_int) (pa_cons (pv 3) (pa_cons (pv 4) pa_nil)))) pe_bl (nomark _))))) (pss_one (ps_ret pe_bl)) pss_nil))))))
      (pss_cons (ps_set (i := 5) sc_law.nd rfl (Or.inl rfl) (pe_lst (pa_cons (pe_fk c_is_integer hr hg pass0 (pk_cons pe_int pk_nil)) (pa_cons (pe_fk c_is_size hr hg pass0 (pk_cons (pe_op op_pow pe_int pe_int) pk_nil)) (pa_cons (pe_fk c_is_name hr hg pass0 (pk_cons pe_str pk_nil)) pa_nil)))))
      (pss_cons (ps_set (i := 5) sc_law.nd rfl (Or.inl rfl) (pe_op opAdd (pv 5) (pe_lst (pa_cons (pe_fk c_number_of hr hg pass0 (pk_cons pe_str (pk_cons (pe_un un_neg pe_int) (pk_cons pe_int pk_nil)))) (pa_cons (pe_f c_number_of hr hg pass0 (pa_cons pe_str (pa_cons pe_int (pa_cons pe_int pa_nil)))) pa_nil)))))
      (pss_cons (ps_expr (pe_bm PySem.F.plainAttrs_list PySem.F.slot_list_append PySem.F.type_list_append mt_append (pv 5) (pa_cons (pe_f c_number_of hr hg pass0 (pa_cons (pe_op opMul pe_str pe_int) (pa_cons pe_int (pa_cons (pe_op op_pow pe_int pe_int) pa_nil)))) pa_nil)))
      (pss_one (ps_ret (pe_cmpR (KX.eqU (K := K) rfl hr.units) (pv 5) (pe_lst (pa_cons pe_bl (pa_cons pe_bl (pa_cons pe_bl (pa_cons (pe_un un_neg pe_int) (pa_cons pe_non (pa_cons pe_non pa_nil))))))) (nomark _))))))))), ?_⟩
    tm_at "s"
    refine ⟨a, ns, rfl, hs, hns, fun p H1 hp e1 p1 => ?_⟩
    tm_at "s"
    refine ⟨14, rfl, by decide, by decide, for_range (lo := 0) (n := 14) (fun i σ H => (∃ v2 v3 v4, σ = [some (.ref a), some (.ref p), v2, v3, v4, none]) ∧ ∃ m, Wo (TL1 Pt) H p m ∧ m ≤ 30 * i) ⟨⟨_, _, _, rfl⟩, 0, ⟨p1, ht.ext e1⟩, by omega⟩ ?_ ?_⟩
    · rintro i _ H2 hi ⟨⟨v2, v3, v4, rfl⟩, m, W2, hm⟩
      show tSeq _ _ _ _ _
      tm_at "s"
      refine s_new (Nat.le_of_lt (small1000 (by simp))) fun l3 H3 hl3 e3 h3 => ?_
      tm_at "s"
      have W3 := W2.ex e3
      refine ⟨p, l3, m, _, rfl, h3, by simp, by simp, W3.pen, by unfold lim; omega, fun v H4 hv p4 k4 => ?_⟩
      have W4 := W3.keep p4 k4
      obtain ⟨lo, rfl⟩ : ∃ lo : Int, v = .int lo := by
        simp only [List.mem_cons, List.not_mem_nil, or_false] at hv
        rcases hv with rfl | rfl | rfl | rfl | rfl <;> exact ⟨_, rfl⟩
      tm_at "s"
      refine ⟨p, m + 1, 100, rfl, by decide, by decide, W4.pen, by unfold lim; omega, fun d H5 d0 d1 p5 k5 => ?_⟩
      have W5 := W4.keep p5 k5
      tm_at "s"
      refine s_new (Nat.le_of_lt (small1000 (by simp))) fun l6 H6 hl6 e6 h6 => ?_
      tm_at "s"
      have W6 := W5.ex e6
      refine ⟨p, l6, m + 1 + 1, _, rfl, h6, by simp, by simp, W6.pen, by unfold lim; omega, fun v H7 hv p7 k7 => ?_⟩
      have W7 := W6.keep p7 k7
      obtain ⟨g, rfl, hg0⟩ : ∃ g : Int, v = .int g ∧ 0 ≤ g := by
        simp only [List.mem_cons, List.not_mem_nil, or_false] at hv
        rcases hv with rfl | rfl | rfl | rfl | rfl
        · exact ⟨_, rfl, by decide⟩
        · exact ⟨_, rfl, by decide⟩
        · exact ⟨_, rfl, by decide⟩
        · exact ⟨_, rfl, by decide⟩
        · exact ⟨_, rfl, d0⟩
      tm_at "s"
      refine ⟨p, m + 1 + 1 + 1, rfl, W7, by unfold lim; omega, fun x H8 x8 W8 hx => ?_⟩
      tm_at "s"
      refine ⟨x, lo, lo + g, rfl, hx, fun H9 e9 => ?_⟩
      tm_at "s"
      have W9 := W8.ex e9
      refine ⟨p, m + 1 + 1 + 1 + 2, rfl, W9.pen, by unfold lim; omega, fun z H10 m10 k10 p10 hm10 hz => ?_⟩
      tm_at "s"
      have W10 := W9.keep p10 k10
      refine ⟨z, lo, lo + g, rfl, hz, fun H11 e11 => ?_⟩
      tm_at "s"
      have W11 := W10.ex e11
      refine ⟨_, lo, lo + g, rfl, .int _, ?_⟩
      have i1 : inB (.int lo) lo (lo + g) = true := by
        show (decide (lo ≤ lo) && decide (lo ≤ lo + g)) = true
        rw [decide_eq_true (Int.le_refl lo), decide_eq_true (show lo ≤ lo + g by omega)]; rfl
      have i2 : inB (.int (lo + g + 1)) lo (lo + g) = false := by
        show (decide (lo ≤ lo + g + 1) && decide (lo + g + 1 ≤ lo + g)) = false
        rw [decide_eq_false (show ¬ lo + g + 1 ≤ lo + g by omega), Bool.and_false]
      rw [i1]
      tm_at "s"
      rw [show (!decide (true = true)) = false from rfl]
      tm_at "s"
      refine ⟨_, lo, lo + g, rfl, .int _, ?_⟩
      rw [i2]
      tm_at "s"
      rw [show (!decide (false = false)) = false from rfl]
      tm_at "s"
      exact ⟨⟨_, _, _, rfl⟩, m10, W11, by omega⟩
    · rintro _ H2 ⟨⟨v2, v3, v4, rfl⟩, m, W2, hm⟩
      show tSeq _ _ _ _ _
      tm_at "s"
      refine ⟨_, rfl, .int _, ?_⟩
      tm_at "s"
      refine ⟨_, rfl, .int _, ?_⟩
      tm_at "s"
      refine ⟨_, rfl, .str _ (by decide) (by decide +kernel), fun H3 e3 => ?_⟩
      tm_at "s"
      refine s_new (Nat.le_of_lt (small1000 (by simp))) fun l4 H4 hl4 e4 h4 => ?_
      tm_at "s"
      refine ⟨_, -3, 5, rfl, .str _ (by decide) (by decide +kernel), fun H5 e5 => ?_⟩
      tm_at "s"
      refine ⟨_, 6, 9, rfl, .str _ (by decide) (by decide +kernel), fun H6 e6 => ?_⟩
      tm_at "s"
      refine s_new (Nat.le_of_lt (small1000 (by simp))) fun l7 H7 hl7 e7 h7 => ?_
      tm_at "s"
      refine s_addL (e7 _ _ (e6 _ _ (e5 _ _ h4))) h7 (Nat.le_of_lt (small1000 (by simp))) fun l8 H8 _ e8 h8 => ?_
      tm_at "s"
      refine s_tyL h8 ?_
      tm_at "s"
      refine s_mulS (by decide) (by decide) rfl ?_
      tm_at "s"
      refine ⟨_, 0, 10 ^ (Int.toNat 30), rfl, vk_nines, fun H9 e9 => ?_⟩
      rw [num_nines]
      tm_at "s"
      refine s_app (e9 _ _ h8) (small1000 (by simp)) ?_
      tm_at "s"
      refine s_new (Nat.le_of_lt (small1000 (by simp))) fun l11 H11 hl11 e11 h11 => ?_
      have h12 := e11 _ _ (upd_same (H := H9) (a := l8))
      tm_at "s"
      rw [show isI (V.int 3) = true from rfl, show inB (V.int (10 ^ Int.toNat 30)) 1 (10 ^ 30) = true from by decide, show nmB (V.str (Str.ofString "abcdefgh")) = true from by decide +kernel,
        show numOf (V.str (Str.ofString "-3")) (-3) 5 = .int (-3) from by decide +kernel, show numOf (V.str (Str.ofString "5")) 6 9 = .non from by decide +kernel] at h12
      have dp : ∀ xs : List V, xs.all fitF = true → DpAll K H11 xs (xs.map flatD) := fun xs h => (fit_list xs h).2.2.2.2
      refine s_eqD' (.lst (.inl (.inl h12)) (dp _ rfl)) (.lst (.inl (.inl h11)) (dp _ rfl)) (by decide +kernel) (by decide +kernel) ?_
      exact k _
end
end K02
end
section
namespace K02
open PySem PySem.Spec PyProof.Rows L2 L3 LamX
theorem fnMk {P : Program} {w : World} {K : PySem.W.Frag} {mg : Str → Option Value} {base : Heap} {CX : CXT} {k : Nat} {x qual : Str} {st : Stmt} {f : Addr} {fd : FuncData} {ps : List Str} {sp : Sp} (F : Fun K x qual st f fd) (ok : FnG P w K mg base CX k f fd ps sp) (m : mg x = some (.ref f))
    (hb : ∀ (kV doc pm : Value) (an : Option Addr) (cdv ct : Value) (us : List Value), us.length = ps.length → bindArgs (PySem.W.fnOf x qual (defArgs st) (defBody st) (defScope st) .none kV doc pm an cdv ct) ⟨us, []⟩ = pure (ps.zip us))
    (hk : ∀ (kV doc pm : Value) (an : Option Addr) (cdv ct : Value) (us : List Value), us.length = ps.length → bindArgs (PySem.W.fnOf x qual (defArgs st) (defBody st) (defScope st) .none kV doc pm an cdv ct) ⟨[], ps.zip us⟩ = pure (ps.zip us)) : Fn P w K mg base CX k x ps sp := by
  have kp := F.kp
  obtain ⟨oc, od, kV, doc, pm, an, cd, ct, sl, rfl, lk, hcd⟩ := F.ex
  exact ⟨⟨f, _, ok, m, kp, .all (hb kV doc pm an cd ct), fun s ws _ hl => .of_eq (hk kV doc pm an cd ct ws hl)⟩⟩
theorem tabs0 {H : Hp} {Pt : Addr} (h : H Pt = some (.tbl #[])) : Tabs (TL1 Pt) H := by
  intro p hp
  rw [List.mem_singleton.mp hp]
  exact ⟨#[], h, trivial, fun pos cv hc => nomatch hc⟩
theorem all_mk {l : PySem.W.OpenLaw} {w : World} {K : PySem.W.Frag} {h : Heap} {mg : Str → Option Value} {fa aW C ct0 Pt fR TR : Addr} (X : K.In h) (G : h.Ns mainGlobals mg) (hfa : mg "law" = some (.ref fa))
    {f1 : Addr} {od1 an1 : Option Addr} {sl1 : Array (Option Value)} {oc1 kV1 dc1 pm1 cd1 ct1 : Value}
    {f2 : Addr} {od2 an2 : Option Addr} {sl2 : Array (Option Value)} {oc2 kV2 dc2 pm2 cd2 ct2 : Value}
    {f3 : Addr} {od3 an3 : Option Addr} {sl3 : Array (Option Value)} {oc3 kV3 dc3 pm3 cd3 ct3 : Value}
    {f4 : Addr} {od4 an4 : Option Addr} {sl4 : Array (Option Value)} {oc4 kV4 dc4 pm4 cd4 ct4 : Value}
    {f5 : Addr} {od5 an5 : Option Addr} {sl5 : Array (Option Value)} {oc5 kV5 dc5 pm5 cd5 ct5 : Value}
    {f6 : Addr} {od6 an6 : Option Addr} {sl6 : Array (Option Value)} {oc6 kV6 dc6 pm6 cd6 ct6 : Value}
    {f7 : Addr} {od7 an7 : Option Addr} {sl7 : Array (Option Value)} {oc7 kV7 dc7 pm7 cd7 ct7 : Value}
    {f8 : Addr} {od8 an8 : Option Addr} {sl8 : Array (Option Value)} {oc8 kV8 dc8 pm8 cd8 ct8 : Value}
    {f9 : Addr} {od9 an9 : Option Addr} {sl9 : Array (Option Value)} {oc9 kV9 dc9 pm9 cd9 ct9 : Value}
    {f10 : Addr} {od10 an10 : Option Addr} {sl10 : Array (Option Value)} {oc10 kV10 dc10 pm10 cd10 ct10 : Value}
    {f11 : Addr} {od11 an11 : Option Addr} {sl11 : Array (Option Value)} {oc11 kV11 dc11 pm11 cd11 ct11 : Value}
    {f12 : Addr} {od12 an12 : Option Addr} {sl12 : Array (Option Value)} {oc12 kV12 dc12 pm12 cd12 ct12 : Value}
    {f13 : Addr} {od13 an13 : Option Addr} {sl13 : Array (Option Value)} {oc13 kV13 dc13 pm13 ct13 : Value}
    {f14 : Addr} {od14 an14 : Option Addr} {sl14 : Array (Option Value)} {oc14 kV14 dc14 pm14 cd14 ct14 : Value}
    {f15 : Addr} {od15 an15 : Option Addr} {sl15 : Array (Option Value)} {oc15 kV15 dc15 pm15 cd15 ct15 : Value}
    {f16 : Addr} {od16 an16 : Option Addr} {sl16 : Array (Option Value)} {oc16 kV16 dc16 pm16 cd16 ct16 : Value}
    {f17 : Addr} {od17 an17 : Option Addr} {sl17 : Array (Option Value)} {oc17 kV17 dc17 pm17 cd17 ct17 : Value}
    {odR anR odT odW : Option Addr} {slR slT slW : Array (Option Value)} {ocR kVR dcR pmR cdR ctR ocT : Value} {nT nW tI tS tM tF w0 w1 w2 w3 w4 w5 w6 w7 w8 w9 : Nat}
    (a1 : PySem.W.nsIn K mainGlobals "is_integer" = some (some (.ref f1))) (l1 : K.lookup f1 = some ⟨oc1, od1, .func (PySem.W.fnOf "is_integer" "is_integer" (defArgs s_is_integer) (defBody s_is_integer) (defScope s_is_integer) .none kV1 dc1 pm1 an1 cd1 ct1), sl1⟩) (c1 : PySem.W.codeIn K cd1 "is_integer" = true) (k1 : PySem.W.keepIn K (.ref f1) = true)
    (a2 : PySem.W.nsIn K mainGlobals "is_within" = some (some (.ref f2))) (l2 : K.lookup f2 = some ⟨oc2, od2, .func (PySem.W.fnOf "is_within" "is_within" (defArgs s_is_within) (defBody s_is_within) (defScope s_is_within) .none kV2 dc2 pm2 an2 cd2 ct2), sl2⟩) (c2 : PySem.W.codeIn K cd2 "is_within" = true) (k2 : PySem.W.keepIn K (.ref f2) = true)
    (a3 : PySem.W.nsIn K mainGlobals "is_size" = some (some (.ref f3))) (l3 : K.lookup f3 = some ⟨oc3, od3, .func (PySem.W.fnOf "is_size" "is_size" (defArgs s_is_size) (defBody s_is_size) (defScope s_is_size) .none kV3 dc3 pm3 an3 cd3 ct3), sl3⟩) (c3 : PySem.W.codeIn K cd3 "is_size" = true) (k3 : PySem.W.keepIn K (.ref f3) = true)
    (a4 : PySem.W.nsIn K mainGlobals "is_name" = some (some (.ref f4))) (l4 : K.lookup f4 = some ⟨oc4, od4, .func (PySem.W.fnOf "is_name" "is_name" (defArgs s_is_name) (defBody s_is_name) (defScope s_is_name) .none kV4 dc4 pm4 an4 cd4 ct4), sl4⟩) (c4 : PySem.W.codeIn K cd4 "is_name" = true) (k4 : PySem.W.keepIn K (.ref f4) = true)
    (a5 : PySem.W.nsIn K mainGlobals "is_figures" = some (some (.ref f5))) (l5 : K.lookup f5 = some ⟨oc5, od5, .func (PySem.W.fnOf "is_figures" "is_figures" (defArgs s_is_figures) (defBody s_is_figures) (defScope s_is_figures) .none kV5 dc5 pm5 an5 cd5 ct5), sl5⟩) (c5 : PySem.W.codeIn K cd5 "is_figures" = true) (k5 : PySem.W.keepIn K (.ref f5) = true)
    (a6 : PySem.W.nsIn K mainGlobals "number_of" = some (some (.ref f6))) (l6 : K.lookup f6 = some ⟨oc6, od6, .func (PySem.W.fnOf "number_of" "number_of" (defArgs s_number_of) (defBody s_number_of) (defScope s_number_of) .none kV6 dc6 pm6 an6 cd6 ct6), sl6⟩) (c6 : PySem.W.codeIn K cd6 "number_of" = true) (k6 : PySem.W.keepIn K (.ref f6) = true)
    (a7 : PySem.W.nsIn K mainGlobals "common" = some (some (.ref f7))) (l7 : K.lookup f7 = some ⟨oc7, od7, .func (PySem.W.fnOf "common" "common" (defArgs s_common) (defBody s_common) (defScope s_common) .none kV7 dc7 pm7 an7 cd7 ct7), sl7⟩) (c7 : PySem.W.codeIn K cd7 "common" = true) (k7 : PySem.W.keepIn K (.ref f7) = true)
    (a8 : PySem.W.nsIn K mainGlobals "_law_pen" = some (some (.ref f8))) (l8 : K.lookup f8 = some ⟨oc8, od8, .func (PySem.W.fnOf "_law_pen" "_law_pen" (defArgs s__law_pen) (defBody s__law_pen) (defScope s__law_pen) .none kV8 dc8 pm8 an8 cd8 ct8), sl8⟩) (c8 : PySem.W.codeIn K cd8 "_law_pen" = true) (k8 : PySem.W.keepIn K (.ref f8) = true)
    (a9 : PySem.W.nsIn K mainGlobals "_law_draw" = some (some (.ref f9))) (l9 : K.lookup f9 = some ⟨oc9, od9, .func (PySem.W.fnOf "_law_draw" "_law_draw" (defArgs s__law_draw) (defBody s__law_draw) (defScope s__law_draw) .none kV9 dc9 pm9 an9 cd9 ct9), sl9⟩) (c9 : PySem.W.codeIn K cd9 "_law_draw" = true) (k9 : PySem.W.keepIn K (.ref f9) = true)
    (a10 : PySem.W.nsIn K mainGlobals "_law_pick" = some (some (.ref f10))) (l10 : K.lookup f10 = some ⟨oc10, od10, .func (PySem.W.fnOf "_law_pick" "_law_pick" (defArgs s__law_pick) (defBody s__law_pick) (defScope s__law_pick) .none kV10 dc10 pm10 an10 cd10 ct10), sl10⟩) (c10 : PySem.W.codeIn K cd10 "_law_pick" = true) (k10 : PySem.W.keepIn K (.ref f10) = true)
    (a11 : PySem.W.nsIn K mainGlobals "_law_is_name" = some (some (.ref f11))) (l11 : K.lookup f11 = some ⟨oc11, od11, .func (PySem.W.fnOf "_law_is_name" "_law_is_name" (defArgs s__law_is_name) (defBody s__law_is_name) (defScope s__law_is_name) .none kV11 dc11 pm11 an11 cd11 ct11), sl11⟩) (c11 : PySem.W.codeIn K cd11 "_law_is_name" = true) (k11 : PySem.W.keepIn K (.ref f11) = true)
    (a12 : PySem.W.nsIn K mainGlobals "_law_written" = some (some (.ref f12))) (l12 : K.lookup f12 = some ⟨oc12, od12, .func (PySem.W.fnOf "_law_written" "_law_written" (defArgs s__law_written) (defBody s__law_written) (defScope s__law_written) .none kV12 dc12 pm12 an12 cd12 ct12), sl12⟩) (c12 : PySem.W.codeIn K cd12 "_law_written" = true) (k12 : PySem.W.keepIn K (.ref f12) = true)
    (a13 : PySem.W.nsIn K mainGlobals "_law_thing" = some (some (.ref f13))) (l13 : K.lookup f13 = some ⟨oc13, od13, .func (PySem.W.fnOf "_law_thing" "_law_thing" (defArgs s__law_thing) (defBody s__law_thing) (defScope s__law_thing) .none kV13 dc13 pm13 an13 (.ref ct0) ct13), sl13⟩) (c13 : PySem.W.codeIn K (.ref ct0) "_law_thing" = true) (k13 : PySem.W.keepIn K (.ref f13) = true)
    (a14 : PySem.W.nsIn K mainGlobals "_law_word" = some (some (.ref f14))) (l14 : K.lookup f14 = some ⟨oc14, od14, .func (PySem.W.fnOf "_law_word" "_law_word" (defArgs s__law_word) (defBody s__law_word) (defScope s__law_word) .none kV14 dc14 pm14 an14 cd14 ct14), sl14⟩) (c14 : PySem.W.codeIn K cd14 "_law_word" = true) (k14 : PySem.W.keepIn K (.ref f14) = true)
    (a15 : PySem.W.nsIn K mainGlobals "_law_thing_right" = some (some (.ref f15))) (l15 : K.lookup f15 = some ⟨oc15, od15, .func (PySem.W.fnOf "_law_thing_right" "_law_thing_right" (defArgs s__law_thing_right) (defBody s__law_thing_right) (defScope s__law_thing_right) .none kV15 dc15 pm15 an15 cd15 ct15), sl15⟩) (c15 : PySem.W.codeIn K cd15 "_law_thing_right" = true) (k15 : PySem.W.keepIn K (.ref f15) = true)
    (a16 : PySem.W.nsIn K mainGlobals "_law_word_right" = some (some (.ref f16))) (l16 : K.lookup f16 = some ⟨oc16, od16, .func (PySem.W.fnOf "_law_word_right" "_law_word_right" (defArgs s__law_word_right) (defBody s__law_word_right) (defScope s__law_word_right) .none kV16 dc16 pm16 an16 cd16 ct16), sl16⟩) (c16 : PySem.W.codeIn K cd16 "_law_word_right" = true) (k16 : PySem.W.keepIn K (.ref f16) = true)
    (a17 : PySem.W.nsIn K mainGlobals "law" = some (some (.ref f17))) (l17 : K.lookup f17 = some ⟨oc17, od17, .func (PySem.W.fnOf "law" "law" (defArgs s_law) (defBody s_law) (defScope s_law) .none kV17 dc17 pm17 an17 cd17 ct17), sl17⟩) (c17 : PySem.W.codeIn K cd17 "law" = true) (k17 : PySem.W.keepIn K (.ref f17) = true)
    (aC : PySem.W.nsIn K mainGlobals "Ratio" = some (some (.ref C)))
    (aR : PySem.W.findIn K (.ref C) "__init__" = some (some (.ref fR)))
    (iR : PySem.W.isFn K (.ref fR) = true)
    (lR : K.lookup fR = some ⟨ocR, odR, .func (PySem.W.fnOf "__init__" "Ratio.__init__" (defArgs s_Ratio___init__) (defBody s_Ratio___init__) (defScope s_Ratio___init__) (.ref TR) kVR dcR pmR anR cdR ctR), slR⟩)
    (cR : PySem.W.codeIn K cdR "Ratio.__init__" = true)
    (kR : PySem.W.keepIn K (.ref fR) = true)
    (lT : K.lookup TR = some ⟨ocT, odT, .seq #[.int 1 tI] nT, slT⟩)
    (pg : PySem.W.plainGet K C Str.empty = true)
    (hd : PySem.W.hasDictIn K C = true)
    (po : PySem.W.plainOver K C = true)
    (sa : PySem.W.findIn K (.ref C) "__setattr__" = some (some (.builtin "object.__setattr__")))
    (mk : PySem.W.makesIn K C = true)
    (kc : PySem.W.keepIn K (.ref C) = true)
    (nO : PySem.W.findIn K (.ref C) "over" = some none)
    (nU : PySem.W.findIn K (.ref C) "under" = some none)
    (ya : PySem.W.findIn K (.ref C) "__class__" = some (some (.builtin "object.__class__")))
    (yb : PySem.W.specialIn K (.builtin "object.__class__") "__get__" = some (some (.builtin "getset_descriptor.__get__")))
    (yc : PySem.W.takesIn K (.builtin "object.__class__") = some true)
    (yd : PySem.W.mroIn K C (.type "object") = some true)
    (y1 : PySem.W.kitOne K (.ref C) (.type "int") = some false)
    (y2 : PySem.W.kitOne K (.ref C) (.type "bool") = some false)
    (y3 : PySem.W.kitOne K (.ref C) (.type "str") = some false)
    (gW : PySem.W.nsIn K mainGlobals "WORDS" = some (some (.ref aW)))
    (lW : K.lookup aW = some ⟨.type "tuple", odW, .seq #[.str "cost" w0, .str "fee" w1, .str "none" w2, .str "order" w3, .str "ready" w4, .str "self" w5, .str "chunks" w6, .str "crew" w7, .str "late" w8, .str "at" w9] nW, slW⟩)
    (gS : PySem.W.nsIn K mainGlobals "SIGNS" = some (some (.str signsT tS)))
    (gM : PySem.W.nsIn K mainGlobals "MOST_SIZE" = some (some (.int 1000000000000000000000000000000 tM)))
    (gF : PySem.W.nsIn K mainGlobals "MOST_FIGURES" = some (some (.int 4000 tF)))
    (dg : PySem.W.nsIn K cStatics "sys.int_max_str_digits" = some none)
    (z_isinstance : PySem.W.nsIn K mainGlobals "isinstance" = some none)
    (z_int : PySem.W.nsIn K mainGlobals "int" = some none)
    (z_bool : PySem.W.nsIn K mainGlobals "bool" = some none)
    (z_str : PySem.W.nsIn K mainGlobals "str" = some none)
    (z_len : PySem.W.nsIn K mainGlobals "len" = some none)
    (z_abs : PySem.W.nsIn K mainGlobals "abs" = some none)
    (z_all : PySem.W.nsIn K mainGlobals "all" = some none)
    (z_list : PySem.W.nsIn K mainGlobals "list" = some none)
    (z_range : PySem.W.nsIn K mainGlobals "range" = some none)
    (z_repr : PySem.W.nsIn K mainGlobals "repr" = some none)
    (hC : PySem.W.codeHdIn K ct0 Pt = true)
    (nP : K.lookup Pt = none)
    (tP : h.get? Pt = some { cls := .none, data := .fields #[] })
    : LawG l w K CX0 5 63 "_law_script" mg fa h := by
  have e := hfa.symm.trans (PySem.W.mg_of X G a17)
  cases e
  have T : Txt K mg aW C := ⟨PySem.W.mg_none_of X G z_isinstance, PySem.W.mg_none_of X G z_int, PySem.W.mg_none_of X G z_bool, PySem.W.mg_none_of X G z_str, PySem.W.mg_none_of X G z_len, PySem.W.mg_none_of X G z_abs, PySem.W.mg_none_of X G z_all, PySem.W.mg_none_of X G z_list, PySem.W.mg_none_of X G z_range, PySem.W.mg_none_of X G z_repr,
    ⟨_, PySem.W.mg_of X G gW, rfl⟩, fun H => .inr ⟨_, _, _, lW, rfl, rfl, (show 10 ≤ sizeLine by decide), .cons ⟨_, rfl⟩ (.cons ⟨_, rfl⟩ (.cons ⟨_, rfl⟩ (.cons ⟨_, rfl⟩ (.cons ⟨_, rfl⟩ (.cons ⟨_, rfl⟩ (.cons ⟨_, rfl⟩ (.cons ⟨_, rfl⟩ (.cons ⟨_, rfl⟩ (.cons ⟨_, rfl⟩ .nil)))))))))⟩,
    ⟨_, PySem.W.mg_of X G gS, _, rfl⟩, ⟨_, PySem.W.mg_of X G gM, _, rfl⟩, ⟨_, PySem.W.mg_of X G gF, _, rfl⟩, dg, ⟨pg, hd, po, sa⟩, nO, nU⟩
  have TX : TxC K C := ⟨fun H a dx fs e => .base (.ins e ⟨pg, hd, po, sa⟩ ya yb yc yd), y1, y2, y3⟩
  have F1 := fun_mk (st := s_is_integer) l1 c1 k1
  have F2 := fun_mk (st := s_is_within) l2 c2 k2
  have F3 := fun_mk (st := s_is_size) l3 c3 k3
  have F4 := fun_mk (st := s_is_name) l4 c4 k4
  have F5 := fun_mk (st := s_is_figures) l5 c5 k5
  have F6 := fun_mk (st := s_number_of) l6 c6 k6
  have F7 := fun_mk (st := s_common) l7 c7 k7
  have F8 := fun_mk (st := s__law_pen) l8 c8 k8
  have F9 := fun_mk (st := s__law_draw) l9 c9 k9
  have F10 := fun_mk (st := s__law_pick) l10 c10 k10
  have F11 := fun_mk (st := s__law_is_name) l11 c11 k11
  have F12 := fun_mk (st := s__law_written) l12 c12 k12
  have F13 : FunC K "_law_thing" "_law_thing" s__law_thing ct0 f13 _ := ⟨⟨_, _, _, _, _, _, _, _, rfl, l13, c13⟩⟩
  have F14 := fun_mk (st := s__law_word) l14 c14 k14
  have F15 := fun_mk (st := s__law_thing_right) l15 c15 k15
  have F16 := fun_mk (st := s__law_word_right) l16 c16 k16
  have F17 := fun_mk (st := s_law) l17 c17 k17
  have FR : FunD K "__init__" "Ratio.__init__" (defArgs s_Ratio___init__) (defBody s_Ratio___init__) (defScope s_Ratio___init__) [.int 1] [] fR _ := ⟨⟨_, _, _, _, _, _, _, _, _, _, rfl, lR, cR, .inr ⟨by simp, TR, _, [.int 1 tI], nT, rfl, lT, rfl, .cons ⟨_, rfl⟩ .nil⟩, .inl rfl⟩, kR⟩
  have bR2 := FR.binds1 (ps := ["self", "over", "under"]) 3 1 (by simp) rfl fun T kV doc pm an cdv ct us its h1 h2 => match us, its, h1, h2 with | [_, _, _], [_], _, _ => ⟨_, rfl, rfl⟩
  have bR1 := FR.binds1 (ps := ["self", "over", "under"]) 2 0 (by simp) rfl fun T kV doc pm an cdv ct us its h1 h2 => match us, its, h1, h2 with | [_, _], [_], _, _ => ⟨_, rfl, rfl⟩
  obtain ⟨d2, v2, b2⟩ := bR2
  obtain ⟨d1, v1, b1⟩ := bR1
  refine ⟨PySem.W.fnOf "law" "law" (defArgs s_law) (defBody s_law) (defScope s_law) .none kV17 dc17 pm17 an17 cd17 ct17, [(ct0, Pt)], spLaw K (TL1 Pt), ?_, ?_, ?_, (fun s u => BindsTo.of_eq rfl), ?_, fun base kb nb tb => ?_⟩
  · intro p hp; rw [List.mem_singleton.mp hp]; exact tP
  · intro p hp; rw [List.mem_singleton.mp hp]; exact nP
  · intro p hp; rw [List.mem_singleton.mp hp]; exact PySem.W.codeHd_of_K X hC
  · intro H a ns hl hH hS
    exact ⟨a, ns, rfl, hS, hl, tabs0 (hH _ List.mem_cons_self), fun _ => rfl⟩
  have c_is_integer : Fn l.prog w K mg base CX0 1 "is_integer" ["value"] (spIsInteger K) := fnMk F1 (ok_is_integer F1 T) (PySem.W.mg_of X G a1) (fun _ _ _ _ _ _ us hl => match us, hl with | [_], _ => rfl) (fun _ _ _ _ _ _ us hl => match us, hl with | [_], _ => rfl)
  have c_is_within : Fn l.prog w K mg base CX0 2 "is_within" ["value", "least", "most"] (spIsWithin K) := fnMk F2 (ok_is_within F2 T c_is_integer) (PySem.W.mg_of X G a2) (fun _ _ _ _ _ _ us hl => match us, hl with | [_, _, _], _ => rfl) (fun _ _ _ _ _ _ us hl => match us, hl with | [_, _, _], _ => rfl)
  have c_is_size : Fn l.prog w K mg base CX0 3 "is_size" ["value"] (spIsSize K) := fnMk F3 (ok_is_size F3 T c_is_within) (PySem.W.mg_of X G a3) (fun _ _ _ _ _ _ us hl => match us, hl with | [_], _ => rfl) (fun _ _ _ _ _ _ us hl => match us, hl with | [_], _ => rfl)
  have c_is_name : Fn l.prog w K mg base CX0 1 "is_name" ["value"] (spIsName K) := fnMk F4 (ok_is_name F4 T) (PySem.W.mg_of X G a4) (fun _ _ _ _ _ _ us hl => match us, hl with | [_], _ => rfl) (fun _ _ _ _ _ _ us hl => match us, hl with | [_], _ => rfl)
  have c_is_figures : Fn l.prog w K mg base CX0 1 "is_figures" ["word"] (spIsFigures K) := fnMk F5 (ok_is_figures F5 T) (PySem.W.mg_of X G a5) (fun _ _ _ _ _ _ us hl => match us, hl with | [_], _ => rfl) (fun _ _ _ _ _ _ us hl => match us, hl with | [_], _ => rfl)
  have c_number_of : Fn l.prog w K mg base CX0 2 "number_of" ["word", "least", "most"] (spNumberOf K) := fnMk F6 (ok_number_of F6 T c_is_figures) (PySem.W.mg_of X G a6) (fun _ _ _ _ _ _ us hl => match us, hl with | [_, _, _], _ => rfl) (fun _ _ _ _ _ _ us hl => match us, hl with | [_, _, _], _ => rfl)
  have c_common : Fn l.prog w K mg base CX0 1 "common" ["one", "other"] spCommon := fnMk F7 (ok_common F7) (PySem.W.mg_of X G a7) (fun _ _ _ _ _ _ us hl => match us, hl with | [_, _], _ => rfl) (fun _ _ _ _ _ _ us hl => match us, hl with | [_, _], _ => rfl)
  have c__law_pen : Fn l.prog w K mg base CX0 1 "_law_pen" ["_law_script"] (spPen K) := fnMk F8 (ok_pen F8 T) (PySem.W.mg_of X G a8) (fun _ _ _ _ _ _ us hl => match us, hl with | [_], _ => rfl) (fun _ _ _ _ _ _ us hl => match us, hl with | [_], _ => rfl)
  have c__law_draw : Fn l.prog w K mg base CX0 1 "_law_draw" ["_law_pen_here", "_law_many"] spDraw := fnMk F9 (ok_draw F9 T) (PySem.W.mg_of X G a9) (fun _ _ _ _ _ _ us hl => match us, hl with | [_, _], _ => rfl) (fun _ _ _ _ _ _ us hl => match us, hl with | [_, _], _ => rfl)
  have c__law_pick : Fn l.prog w K mg base CX0 2 "_law_pick" ["_law_pen_here", "_law_some"] spPick := fnMk F10 (ok_pick F10 T c__law_draw) (PySem.W.mg_of X G a10) (fun _ _ _ _ _ _ us hl => match us, hl with | [_, _], _ => rfl) (fun _ _ _ _ _ _ us hl => match us, hl with | [_, _], _ => rfl)
  have c__law_is_name : Fn l.prog w K mg base CX0 1 "_law_is_name" ["_law_wordy"] spLIsName := fnMk F11 (ok_lisname F11 T) (PySem.W.mg_of X G a11) (fun _ _ _ _ _ _ us hl => match us, hl with | [_], _ => rfl) (fun _ _ _ _ _ _ us hl => match us, hl with | [_], _ => rfl)
  have c__law_written : Fn l.prog w K mg base CX0 1 "_law_written" ["_law_wordy"] spWritten := fnMk F12 (ok_written F12 T) (PySem.W.mg_of X G a12) (fun _ _ _ _ _ _ us hl => match us, hl with | [_], _ => rfl) (fun _ _ _ _ _ _ us hl => match us, hl with | [_], _ => rfl)
  have o_ratio := ok_ratio (P := l.prog) (w := w) (base := base) FR T c_is_integer c_common
  have m_Ratio_2 : Mc l.prog w K mg base CX0 2 "Ratio" C ["self", "over", "under"] (spRatio C) [] := ⟨⟨fR, _, d2, o_ratio, PySem.W.mg_of X G aC, ⟨mk, aR, iR, kc⟩, b2, v2⟩⟩
  have m_Ratio_1 : Mc l.prog w K mg base CX0 2 "Ratio" C ["self", "over", "under"] (spRatio C) [.int 1] := ⟨⟨fR, _, d1, o_ratio, PySem.W.mg_of X G aC, ⟨mk, aR, iR, kc⟩, b1, v1⟩⟩
  have c__law_thing : Fn l.prog w K mg base CX0 4 "_law_thing" ["_law_pen_here"] (spThing K (TL1 Pt)) := fnMk (F13.fun k13) (ok_thing F13 (tb _ List.mem_cons_self) T TX c__law_draw c__law_pick m_Ratio_2 m_Ratio_1) (PySem.W.mg_of X G a13) (fun _ _ _ _ _ _ us hl => match us, hl with | [_], _ => rfl) (fun _ _ _ _ _ _ us hl => match us, hl with | [_], _ => rfl)
  have c__law_word : Fn l.prog w K mg base CX0 3 "_law_word" ["_law_pen_here"] spWord := fnMk F14 (ok_word F14 T c__law_draw c__law_pick) (PySem.W.mg_of X G a14) (fun _ _ _ _ _ _ us hl => match us, hl with | [_], _ => rfl) (fun _ _ _ _ _ _ us hl => match us, hl with | [_], _ => rfl)
  have c__law_thing_right : Fn l.prog w K mg base CX0 4 "_law_thing_right" ["_law_thing_here", "_law_low", "_law_high"] (spTR K) := fnMk F15 (ok_tr F15 T c_is_integer c_is_within c_is_size c_is_name c_number_of) (PySem.W.mg_of X G a15) (fun _ _ _ _ _ _ us hl => match us, hl with | [_, _, _], _ => rfl) (fun _ _ _ _ _ _ us hl => match us, hl with | [_, _, _], _ => rfl)
  have c__law_word_right : Fn l.prog w K mg base CX0 4 "_law_word_right" ["_law_wordy", "_law_low", "_law_high"] spWR := fnMk F16 (ok_wr F16 T c_is_integer c_is_within c_is_size c_is_name c_number_of c__law_written c__law_is_name) (PySem.W.mg_of X G a16) (fun _ _ _ _ _ _ us hl => match us, hl with | [_, _, _], _ => rfl) (fun _ _ _ _ _ _ us hl => match us, hl with | [_, _, _], _ => rfl)
  exact ok_law F17 T c_is_integer c_is_within c_is_size c_is_name c_number_of c__law_pen c__law_draw c__law_pick c__law_thing c__law_word c__law_thing_right c__law_word_right
end K02
end
section
open PySem PySem.W PyProof.Rows
set_option maxRecDepth 100000 in
set_option maxHeartbeats 0 in
theorem PySem.Challenge.cw_latechunks_k02_looks_at_any_values_holds : PySem.Challenge.rw_latechunks_k02_looks_at_any_values.Holds := by
  w_on; o_law; k_head; (case hw => w_witness2)
  k_fill
  refine L3.walkG (l := PySem.Challenge.rw_latechunks_k02_looks_at_any_values) (n := 63) (k := 5) (x := "_law_script") (CX := fun _ => L2.CX0) rfl (by decide) rfl ⟨rfl, by decide, by decide⟩ (fun w h Y => PySem.W.km_in_of Y) ?F (fun _ _ _ _ _ z => z)
  case F =>
    intro w mg fa h Y KX G hmg
    refine' K02.all_mk (Pt := 363) KX G hmg ?a1 ?l1 ?c1 ?k1 ?a2 ?l2 ?c2 ?k2 ?a3 ?l3 ?c3 ?k3 ?a4 ?l4 ?c4 ?k4 ?a5 ?l5 ?c5 ?k5 ?a6 ?l6 ?c6 ?k6 ?a7 ?l7 ?c7 ?k7 ?a8 ?l8 ?c8 ?k8 ?a9 ?l9 ?c9 ?k9 ?a10 ?l10 ?c10 ?k10 ?a11 ?l11 ?c11 ?k11 ?a12 ?l12 ?c12 ?k12 ?a13 ?l13 ?c13 ?k13 ?a14 ?l14 ?c14 ?k14 ?a15 ?l15 ?c15 ?k15 ?a16 ?l16 ?c16 ?k16 ?a17 ?l17 ?c17 ?k17 ?aC ?aR ?iR ?lR ?cR ?kR ?lT ?pg ?hd ?po ?sa ?mk ?kc ?nO ?nU ?ya ?yb ?yc ?yd ?y1 ?y2 ?y3 ?gW ?lW ?gS ?gM ?gF ?dg ?z_isinstance ?z_int ?z_bool ?z_str ?z_len ?z_abs ?z_all ?z_list ?z_range ?z_repr ?hC ?nP ?tP
    (case a1 => k_is)
    (case l1 => k_is)
    (case c1 => k_is)
    (case k1 => k_is)
    (case a2 => k_is)
    (case l2 => k_is)
    (case c2 => k_is)
    (case k2 => k_is)
    (case a3 => k_is)
    (case l3 => k_is)
    (case c3 => k_is)
    (case k3 => k_is)
    (case a4 => k_is)
    (case l4 => k_is)
    (case c4 => k_is)
    (case k4 => k_is)
    (case a5 => k_is)
    (case l5 => k_is)
    (case c5 => k_is)
    (case k5 => k_is)
    (case a6 => k_is)
    (case l6 => k_is)
    (case c6 => k_is)
    (case k6 => k_is)
    (case a7 => k_is)
    (case l7 => k_is)
    (case c7 => k_is)
    (case k7 => k_is)
    (case a8 => k_is)
    (case l8 => k_is)
    (case c8 => k_is)
    (case k8 => k_is)
    (case a9 => k_is)
    (case l9 => k_is)
    (case c9 => k_is)
    (case k9 => k_is)
    (case a10 => k_is)
    (case l10 => k_is)
    (case c10 => k_is)
    (case k10 => k_is)
    (case a11 => k_is)
    (case l11 => k_is)
    (case c11 => k_is)
    (case k11 => k_is)
    (case a12 => k_is)
    (case l12 => k_is)
    (case c12 => k_is)
    (case k12 => k_is)
    (case a13 => k_is)
    (case l13 => k_is)
    (case c13 => k_is)
    (case k13 => k_is)
    (case a14 => k_is)
    (case l14 => k_is)
    (case c14 => k_is)
    (case k14 => k_is)
    (case a15 => k_is)
    (case l15 => k_is)
    (case c15 => k_is)
    (case k15 => k_is)
    (case a16 => k_is)
    (case l16 => k_is)
    (case c16 => k_is)
    (case k16 => k_is)
    (case a17 => k_is)
    (case l17 => k_is)
    (case c17 => k_is)
    (case k17 => k_is)
    (case aC => k_is)
    (case aR => k_is)
    (case iR => k_is)
    (case lR => k_is)
    (case cR => k_is)
    (case kR => k_is)
    (case lT => k_is)
    (case pg => k_is)
    (case hd => k_is)
    (case po => k_is)
    (case sa => k_is)
    (case mk => k_is)
    (case kc => k_is)
    (case nO => k_is)
    (case nU => k_is)
    (case ya => k_is)
    (case yb => k_is)
    (case yc => k_is)
    (case yd => k_is)
    (case y1 => kernel_rfl)
    (case y2 => kernel_rfl)
    (case y3 => kernel_rfl)
    (case gW => k_is)
    (case lW => k_is)
    (case gS => k_is)
    (case gM => k_is)
    (case gF => k_is)
    (case dg => k_is)
    (case z_isinstance => k_is)
    (case z_int => k_is)
    (case z_bool => k_is)
    (case z_str => k_is)
    (case z_len => k_is)
    (case z_abs => k_is)
    (case z_all => k_is)
    (case z_list => k_is)
    (case z_range => k_is)
    (case z_repr => k_is)
    (case hC => kernel_rfl)
    (case nP => kernel_rfl)
    (case tP => exact PySem.W.km_tabs_of Y _ (by k_mem))
end
