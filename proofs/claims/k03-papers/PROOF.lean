import PyProof.Rows.All
import Wide.All
import OpenK.AllK
import Wide.FinOn
import HandS.ForMost
import HandS.Wide
import HandS.IsInst
import HandS.Defaults
import HandS.Evl
import HandS.EndTab
import HandS.Lambda
import HandS.Style
import HandS.Steps
import HandS.Text
import PyProof.ReprRoads
import PyProof.ListStr
import PyProof.StrOps2
import HandS.Walk
import HandS.ExcInit
import HandS.Nested
import HandS.ExcValue
import KE.KExcSuper
import HandS.ExcIs
import HandS.ExcField
import KE.KOpsOwn
import PyProof.Rows.Range3
import PyProof.Conv_bool
import HandS.HotCalls
import PyProof.EqAt
import HandS.ClsMeth
import HandS.MakeKwOnly
import HandS.FStr
import KE.KCallOwn
import PyProof.Rows.StrOr
import PyProof.TypeEq
import HandS.DeepEq
import KE.KEqDict
import PySem.Challenge.RW_latechunks_k03_papers_of_all_kinds
import HandS.Head0
import HandS.Head1
import HandS.Head2
import KE.KNestM
set_option Elab.async false
set_option linter.all false
set_option maxRecDepth 100000
set_option maxHeartbeats 4000000
section
namespace L3
open PySem PySem.Spec PyProof.Rows L2
def PenO (a c : Addr) (n : Nat) : HO := .ext fun h => ∃ (spot rest : Int) (t u : Tok) (k : Nat),
  h.get? a = some { cls := .type "list", data := .seq #[.ref c, .int spot t, .int rest u] k } ∧ 0 ≤ spot ∧ spot ≤ n
theorem PenO_ok {P : Program} {w : World} {H : Hp} {h : Heap} {a c : Addr} {n : Nat} {spot rest : Int} {t u : Tok} {k : Nat}
    (e : h.get? a = some { cls := .type "list", data := .seq #[.ref c, .int spot t, .int rest u] k }) (h0 : 0 ≤ spot) (h1 : spot ≤ n) :
    ObjOk P w H h a (PenO a c n) :=
  ⟨⟨spot, rest, t, u, k, e, h0, h1⟩, ⟨_, e⟩, fun _ _ ⟨s, r, t, u, k, q, z⟩ f => ⟨s, r, t, u, k, f _ q, z⟩⟩
section
variable {X : Cx} {pins : List (Addr × Obj)} {σ : L2.St} {H : Hp} {s : Shared}
theorem Inv.penOpen {a c : Addr} {n : Nat} (I : Inv X pins σ H s) (h : H a = some (PenO a c n)) :
    ∃ spot rest : Int, 0 ≤ spot ∧ spot ≤ n ∧ Inv X pins σ (upd H a (.lst [.ref c, .int spot, .int rest])) s := by
  obtain ⟨⟨spot, rest, t, u, k, e, h0, h1⟩, _, _⟩ := (show ObjOk X.prog X.w H s.heap a (PenO a c n) from I.hok a _ h)
  refine ⟨spot, rest, h0, h1, ?_⟩
  have mu : Mut (H a) := by rw [h]; exact True.intro
  have := I.write (t' := s.toks) (h' := s.heap) (x := a) (e := a) (o := .lst [.ref c, .int spot, .int rest]) mu (.inl rfl) (fun _ _ _ q => q) ⟨_, e⟩
    ⟨(by rw [sizeLine_eq]; show 3 ≤ 16777216; decide), [.ref c, .int spot t, .int rest u], k, .cons rfl (.cons ⟨t, rfl⟩ (.cons ⟨u, rfl⟩ .nil)), e⟩
  exact this
theorem vals3 {x y z : V} {us : List Value} (r : Vals [x, y, z] us) : ∃ u v w, us = [u, v, w] ∧ RelV x u ∧ RelV y v ∧ RelV z w := by
  cases r with
  | cons r1 r =>
    cases r with
    | cons r2 r =>
      cases r with
      | cons r3 r =>
        cases r
        exact ⟨_, _, _, rfl, r1, r2, r3⟩
theorem Inv.penClose {a c : Addr} {n : Nat} {spot rest : Int} (I : Inv X pins σ H s) (h : H a = some (.lst [.ref c, .int spot, .int rest])) (h0 : 0 ≤ spot) (h1 : spot ≤ n) :
    Inv X pins σ (upd H a (PenO a c n)) s := by
  obtain ⟨_, its, k, r, e⟩ := (show ObjOk X.prog X.w H s.heap a (.lst _) from I.hok a _ h)
  obtain ⟨u, v, w, rfl, r1, ⟨t, r2⟩, ⟨t', r3⟩⟩ := vals3 r
  cases (show u = .ref c from r1)
  subst r2 r3
  have mu : Mut (H a) := by rw [h]; exact True.intro
  exact I.write (t' := s.toks) (h' := s.heap) (x := a) (e := a) (o := PenO a c n) mu (.inl rfl) (fun _ _ _ q => q) ⟨_, e⟩ (PenO_ok e h0 h1)
end
/-- inside: the list is known, behind: it is hidden again -/
def penBack (a c : Addr) (n : Nat) (P : Hp → Prop) (H : Hp) : Prop := ∃ spot rest : Int, H a = some (.lst [.ref c, .int spot, .int rest]) ∧ 0 ≤ spot ∧ spot ≤ n ∧ P (upd H a (PenO a c n))
def tPen (a c : Addr) (n m : Nat) (t : TS) : TS := fun D σ H => H a = some (PenO a c n) ∧ ∀ spot rest : Int, 0 ≤ spot → spot ≤ n →
  t { nx := fun σ' => penBack a c m (D.nx σ'), rt := fun v => penBack a c m (D.rt v), bk := fun σ' => penBack a c m (D.bk σ'), ct := fun σ' => penBack a c m (D.ct σ') } σ (upd H a (.lst [.ref c, .int spot, .int rest]))
theorem pss_pen {X : Cx} {sts : List Stmt} {t : TS} (a c : Addr) (n m : Nat) (h : PSs X sts t) : PSs X sts (tPen a c n m t) := by
  refine ⟨fun pins s σ H D I hw => ?_⟩
  obtain ⟨ha, hw⟩ := hw
  obtain ⟨spot, rest, h0, h1, I1⟩ := Inv.penOpen I ha
  refine thn (h.run pins s σ _ _ I1 (hw spot rest h0 h1)) fun f s' q => ?_
  cases f with
  | next =>
    obtain ⟨σ', H', I', sp, re, e, g0, g1, z⟩ := q
    exact ⟨σ', _, Inv.penClose I' e g0 g1, z⟩
  | brk =>
    obtain ⟨σ', H', I', sp, re, e, g0, g1, z⟩ := q
    exact ⟨σ', _, Inv.penClose I' e g0 g1, z⟩
  | cont =>
    obtain ⟨σ', H', I', sp, re, e, g0, g1, z⟩ := q
    exact ⟨σ', _, Inv.penClose I' e g0 g1, z⟩
  | ret u =>
    obtain ⟨v, σ', H', I', r, sp, re, e, g0, g1, z⟩ := q
    exact ⟨v, σ', _, Inv.penClose I' e g0 g1, r, z⟩
end L3
namespace L3
open PySem PySem.Spec PyProof.Rows L2
section
variable {σ : L2.St} {H : Hp} {D : Ends} {t u : TS} {te ta tb : TE} {Q : VK} {v x y : V} {K : PySem.W.Frag}
theorem iteB {b : Bool} {A B : Prop} (h1 : b = true → A) (h2 : b = false → B) : if b = true then A else B := by
  cases b with
  | true => exact iteT (h1 rfl)
  | false => exact iteF (h2 rfl)
theorem iteD {c : Prop} {_ : Decidable c} {A B : Prop} (h1 : c → A) (h2 : ¬ c → B) : if decide c = true then A else B := iteB (fun h => h1 (of_decide_eq_true h)) (fun h => h2 (of_decide_eq_false h))
theorem iteND {c : Prop} {_ : Decidable c} {A B : Prop} (h1 : ¬ c → A) (h2 : c → B) : if (!decide c) = true then A else B := iteB (fun h => h1 (by simpa using h)) (fun h => h2 (by simpa using h))
theorem s_seq (h : t { D with nx := u D } σ H) : tSeq t u D σ H := h
theorem s_next (h : D.nx σ H) : tNext D σ H := h
theorem s_asg {i : Nat} (h : te σ H fun x H1 => D.nx (σ.set i (some x)) H1) : tAsg te (gName i) D σ H := h
theorem s_asgS {to ti : TE} {t : TSet} (h : te σ H fun v H1 => to σ H1 fun o H2 => ti σ H2 fun i H3 => t o i v H3 fun H4 => D.nx σ H4) : tAsg te (gSub to ti t) D σ H := h
theorem s_drop (h : te σ H fun _ H1 => D.nx σ H1) : tDrop te D σ H := h
theorem s_ret (h : te σ H D.rt) : tRet te D σ H := h
theorem s_retN (h : D.rt .non H) : tRetN D σ H := h
theorem s_if {c : TT} (h : c σ H fun b H1 => if b = true then t D σ H1 else u D σ H1) : tIfS c t u D σ H := h
theorem s_var {i : Nat} (e : σ[i]? = some (some v)) (h : Q v H) : tVar i σ H Q := ⟨v, e, h⟩
theorem s_c (h : Q v H) : tC v σ H Q := h
theorem s_op {r : R2} (h : ta σ H fun x H1 => tb σ H1 fun y H2 => r x y H2 Q) : tOp r ta tb σ H Q := h
theorem s_un {r : V → Hp → VK → Prop} (h : ta σ H fun x H1 => r x H1 Q) : tUn r ta σ H Q := h
theorem s_cb {r : List V → Hp → VK → Prop} {tt : TA} (h : tt σ H fun vs H1 => r vs H1 Q) : tCB r tt σ H Q := h
theorem s_nil {Q : List V → Hp → Prop} (h : Q [] H) : tNil σ H Q := h
theorem s_cons {Q : List V → Hp → Prop} {tr : TA} (h : ta σ H fun x H1 => tr σ H1 fun xs H2 => Q (x :: xs) H2) : tCons ta tr σ H Q := h
theorem s_test {Q : Bool → Hp → Prop} (h : te σ H fun x H' => ∃ k, x = .bl k ∧ Q k H') : tTest te σ H Q := h
theorem s_tB {Q : Bool → Hp → Prop} (h : te σ H fun x H' => ∃ k, x = .bl k ∧ Q k H') : tB te σ H Q := h
theorem s_bl {R : Bool → Prop} {b : Bool} (h : R b) : ∃ k, V.bl b = .bl k ∧ R k := ⟨b, rfl, h⟩
theorem s_and {c d : TT} {Q : Bool → Hp → Prop} (h : c σ H fun b H1 => if b = true then d σ H1 Q else Q false H1) : tAnd c d σ H Q := h
theorem s_or {c d : TT} {Q : Bool → Hp → Prop} (h : c σ H fun b H1 => if b = true then Q true H1 else d σ H1 Q) : tOr c d σ H Q := h
theorem s_not {c : TT} {Q : Bool → Hp → Prop} (h : c σ H fun b H1 => Q (!b) H1) : tNot c σ H Q := h
theorem s_andV (h : ta σ H fun x H1 => ∃ c, x = .bl c ∧ if c = true then tb σ H1 Q else Q (.bl false) H1) : tAndV ta tb σ H Q := h
theorem s_orV (h : ta σ H fun x H1 => ∃ c, x = .bl c ∧ if c = true then Q (.bl true) H1 else tb σ H1 Q) : tOrV ta tb σ H Q := h
theorem s_notV (h : ta σ H fun x H1 => ∃ c, x = .bl c ∧ Q (.bl (!c)) H1) : tNotV ta σ H Q := h
theorem s_ifE {c : TT} (h : c σ H fun b H1 => if b = true then ta σ H1 Q else tb σ H1 Q) : tIf c ta tb σ H Q := h
theorem s_call {sp : Sp} {dvs : List V} {E : XK} {tt : TA} (h : tt σ H fun vs H1 => sp (vs ++ dvs) H1 Q E) : tCall sp dvs E tt σ H Q := h
theorem s_I0 {g : Int → Int → V} {i j : Int} (h : Q (g i j) H) : rI0 g (.int i) (.int j) H Q := ⟨i, j, rfl, rfl, h⟩
theorem s_I {C : Int → Int → Prop} {g : Int → Int → V} {i j : Int} (c : C i j) (h : Q (g i j) H) : rI C g (.int i) (.int j) H Q := ⟨i, j, rfl, rfl, c, h⟩
theorem s_U {g : Int → V} {i : Int} (h : Q (g i) H) : rU g (.int i) H Q := ⟨i, rfl, h⟩
theorem s_setL {p : Addr} {xs : List V} {i : Int} {j : Nat} {R : Hp → Prop} (hp : H p = some (.lst xs)) (e : ixN xs.length i = some j) (h : R (upd H p (.lst (xs.set j v)))) : rSetL (.ref p) (.int i) v H R := ⟨p, xs, i, j, rfl, rfl, hp, e, h⟩
theorem s_int {R : Int → Prop} {R' : Bool → Prop} {i : Int} (h : R i) : (∃ j, [V.int i] = [V.int j] ∧ R j) ∨ ∃ k, [V.int i] = [V.bl k] ∧ R' k := .inl ⟨i, rfl, h⟩
theorem s_intB {R : Int → Prop} {R' : Bool → Prop} {b : Bool} (h : R' b) : (∃ j, [V.bl b] = [V.int j] ∧ R j) ∨ ∃ k, [V.bl b] = [V.bl k] ∧ R' k := .inr ⟨b, rfl, h⟩
theorem s_abs {R : Int → Prop} {i : Int} (h : R i) : ∃ j, [V.int i] = [V.int j] ∧ R j := ⟨i, rfl, h⟩
theorem s_lenL {R : Nat → Prop} {p : Addr} {xs : List V} (hp : H p = some (.lst xs)) (h : R xs.length) : ∃ x n, [V.ref p] = [x] ∧ LenV K x H n ∧ R n := ⟨_, _, rfl, .inl ⟨xs, .inl (.inl hp), rfl⟩, h⟩
/-- all that is tracked stays -/
theorem ex_new {p : Addr} {o : HO} (h : H p = none) : ∀ b u, H b = some u → upd H p o b = some u := fun b u e => by
  rw [upd_ne (ne_of_none e h)]; exact e
def Ex (H H' : Hp) : Prop := ∀ b o, H b = some o → H' b = some o
theorem Ex.refl (H : Hp) : Ex H H := fun _ _ h => h
theorem Ex.trans {H H1 H2 : Hp} (a : Ex H H1) (b : Ex H1 H2) : Ex H H2 := fun x o h => b x o (a x o h)
theorem Ex.free {H H' : Hp} (e : Ex H H') {p : Addr} (h : H' p = none) : H p = none := by
  cases q : H p with
  | none => rfl
  | some o => rw [e _ _ q] at h; cases h
/-- what is wanted of a new thing (kept from being reduced) -/
def ap (Q : VK) (v : V) (H : Hp) : Prop := Q v H
theorem s_lst {tt : TA} (h : tt σ H fun xs H1 => xs.length ≤ sizeLine ∧ ∀ p, H1 p = none → ap Q (.ref p) (upd H1 p (.lst xs))) : tLst tt σ H Q := h
theorem s_tup {tt : TA} (h : tt σ H fun xs H1 => xs.length ≤ sizeLine ∧ ∀ p, H1 p = none → ap Q (.ref p) (upd H1 p (.tup xs))) : tTup tt σ H Q := h
theorem s_new {o : HO} {n : Nat} (hz : n ≤ sizeLine) (h : ∀ p H2, H p = none → Ex H H2 → H2 p = some o → Q (.ref p) H2) : n ≤ sizeLine ∧ ∀ p, H p = none → ap Q (.ref p) (upd H p o) :=
  ⟨hz, fun p hp => h p _ hp (ex_new hp) upd_same⟩
theorem s_cut {M : L2.St → Hp → Prop} (h : t { D with nx := M } σ H) (k : ∀ σ' H', M σ' H' → u D σ' H') : Evl.tCut t u D σ H := ⟨M, h, k⟩
theorem dpInts {H : Hp} : ∀ ns : List Int, DpAll K H (ns.map V.int) (ns.map PyData.int)
  | [] => .nil
  | _ :: r => .cons (.int _) (dpInts r)
theorem s_eqD {d e : PyData} (hd : Dp K H x d) (he : Dp K H y e) (sd : SeqAt.shaped d = true) (se : SeqAt.shaped e = true) (h : Q (.bl (PyData.eqv d e)) H) : rEqD K x y H Q := ⟨d, e, hd, he, sd, se, h⟩
end
end L3
namespace L3
open PySem PySem.Spec PyProof.Rows L2
def lim : Nat := 1000000
/-- the pen's cells: a list of numbers, hidden too -/
def ScO (c : Addr) (ns : List Int) : HO := .ext fun h => ∃ (its : List Value) (k : Nat), (ns.map V.int).length ≤ sizeLine ∧ Vals (ns.map V.int) its ∧ h.get? c = some { cls := .type "list", data := .seq its.toArray k }
section
variable {X : Cx} {pins : List (Addr × Obj)} {σ : L2.St} {H : Hp} {s : Shared}
theorem Inv.scOpen {c : Addr} {ns : List Int} (I : Inv X pins σ H s) (h : H c = some (ScO c ns)) : Inv X pins σ (upd H c (.lst (ns.map V.int))) s := by
  obtain ⟨⟨its, k, hz, r, e⟩, _, _⟩ := (show ObjOk X.prog X.w H s.heap c (ScO c ns) from I.hok c _ h)
  have mu : Mut (H c) := by rw [h]; exact True.intro
  exact I.write (t' := s.toks) (h' := s.heap) (x := c) (e := c) (o := .lst (ns.map V.int)) mu (.inl rfl) (fun _ _ _ q => q) ⟨_, e⟩ ⟨hz, its, k, r, e⟩
theorem Inv.scClose {c : Addr} {ns : List Int} (I : Inv X pins σ H s) (h : H c = some (.lst (ns.map V.int))) : Inv X pins σ (upd H c (ScO c ns)) s := by
  obtain ⟨hz, its, k, r, e⟩ := (show ObjOk X.prog X.w H s.heap c (.lst _) from I.hok c _ h)
  have mu : Mut (H c) := by rw [h]; exact True.intro
  exact I.write (t' := s.toks) (h' := s.heap) (x := c) (e := c) (o := ScO c ns) mu (.inl rfl) (fun _ _ _ q => q) ⟨_, e⟩
    ⟨⟨its, k, hz, r, e⟩, ⟨_, e⟩, fun _ _ ⟨i, k, z, r, q⟩ f => ⟨i, k, z, r, f _ q⟩⟩
end
def scBack (c : Addr) (ns : List Int) (P : Hp → Prop) (H : Hp) : Prop := H c = some (.lst (ns.map V.int)) ∧ P (upd H c (ScO c ns))
def tSc (c : Addr) (ns : List Int) (t : TS) : TS := fun D σ H => H c = some (ScO c ns) ∧
  t { nx := fun σ' => scBack c ns (D.nx σ'), rt := fun v => scBack c ns (D.rt v), bk := fun σ' => scBack c ns (D.bk σ'), ct := fun σ' => scBack c ns (D.ct σ') } σ (upd H c (.lst (ns.map V.int)))
theorem pss_sc {X : Cx} {sts : List Stmt} {t : TS} (c : Addr) (ns : List Int) (h : PSs X sts t) : PSs X sts (tSc c ns t) := by
  refine ⟨fun pins s σ H D I hw => ?_⟩
  obtain ⟨ha, hw⟩ := hw
  refine thn (h.run pins s σ _ _ (Inv.scOpen I ha) hw) fun f s' q => ?_
  cases f with
  | next =>
    obtain ⟨σ', H', I', e, z⟩ := q
    exact ⟨σ', _, Inv.scClose I' e, z⟩
  | brk =>
    obtain ⟨σ', H', I', e, z⟩ := q
    exact ⟨σ', _, Inv.scClose I' e, z⟩
  | cont =>
    obtain ⟨σ', H', I', e, z⟩ := q
    exact ⟨σ', _, Inv.scClose I' e, z⟩
  | ret u =>
    obtain ⟨v, σ', H', I', r, e, z⟩ := q
    exact ⟨v, σ', _, Inv.scClose I' e, r, z⟩
def Pen (H : Hp) (a : Addr) (n : Nat) : Prop := ∃ c ns, H a = some (PenO a c n) ∧ H c = some (ScO c ns) ∧ ns.length ≤ 63 ∧ c ≠ a
def NoTbl : HO → Prop
  | .tbl _ => False
  | _ => True
/-- all but the pen at a and the tables of code objects stays -/
def Xt (a : Addr) (H H' : Hp) : Prop := ∀ b o, b ≠ a → NoTbl o → H b = some o → H' b = some o
abbrev rInt1 : List V → Hp → VK → Prop := fun xs H Q => (∃ i, xs = [V.int i] ∧ Q (V.int i) H) ∨ ∃ k, xs = [V.bl k] ∧ Q (V.int (if k then 1 else 0)) H
abbrev rLen1 (K : PySem.W.Frag) : List V → Hp → VK → Prop := fun xs H Q => ∃ x n, xs = [x] ∧ LenV K x H n ∧ Q (V.int ((n : Nat) : Int)) H
abbrev rAbs1 : List V → Hp → VK → Prop := fun xs H Q => ∃ i, xs = [V.int i] ∧ Q (V.int (if i < 0 then -i else i)) H
/-- == and != of flat things, or of data -/
def rEqU (K : PySem.W.Frag) : R2 := fun x y H Q => rEq x y H Q ∨ rEqD K x y H Q
def rNeU (K : PySem.W.Frag) : R2 := fun x y H Q => rNe x y H Q ∨ rNeD K x y H Q
theorem dec_eqI (i j : Int) : decide (V.int i = V.int j) = decide (i = j) := by
  by_cases h : i = j
  · subst h; simp
  · rw [decide_eq_false h, decide_eq_false (fun z => h (V.int.inj z))]
theorem dec_eqS (i j : Str) : decide (V.str i = V.str j) = decide (i = j) := by
  by_cases h : i = j
  · subst h; simp
  · rw [decide_eq_false h, decide_eq_false (fun z => h (V.str.inj z))]
section
variable {K : PySem.W.Frag} {H : Hp} {Q : VK} {x y : V}
theorem s_eqI {i j : Int} (h : Q (.bl (decide (i = j))) H) : rEqU K (.int i) (.int j) H Q := .inl ⟨rfl, by rw [dec_eqI]; exact h⟩
theorem s_neI {i j : Int} (h : Q (.bl (!decide (i = j))) H) : rNeU K (.int i) (.int j) H Q := .inl ⟨rfl, by rw [dec_eqI]; exact h⟩
theorem s_eqS {i j : Str} (h : Q (.bl (decide (i = j))) H) : rEqU K (.str i) (.str j) H Q := .inl ⟨rfl, by rw [dec_eqS]; exact h⟩
theorem s_neS {i j : Str} (h : Q (.bl (!decide (i = j))) H) : rNeU K (.str i) (.str j) H Q := .inl ⟨rfl, by rw [dec_eqS]; exact h⟩
theorem s_neD' {d e : PyData} (hd : Dp K H x d) (he : Dp K H y e) (sd : SeqAt.shaped d = true) (se : SeqAt.shaped e = true) (h : Q (.bl (!PyData.eqv d e)) H) : rNeU K x y H Q := .inr ⟨d, e, hd, he, sd, se, h⟩
end
end L3
end
section
namespace L3
open PySem PySem.Spec PyProof.Rows L2
structure FnG (P : Program) (w : World) (K : PySem.W.Frag) (mg : Str → Option Value) (base : Heap) (CX : CXT) (k : Nat) (f : Addr) (fd : FuncData) (ps : List Str) (sp : Sp) : Prop where
  len : ∀ vs H Q E, sp vs H Q E → vs.length = ps.length
  run : ∀ (A : Around) (fr : List Env) (s : Shared) (H : Hp) (as : Args) (us : List Value) (vs : List V) (Q : VK) (E : XK), Room k A → A.guards = some [] → Env0 P w K mg base A fr s H →
    BindsTo s fd as (ps.zip us) → Vals vs us → sp vs H Q E → codeAny (model P w) A (.call (.ref f) as) (CR CX fr P w H s Q E) s
theorem FnG.of {P : Program} {w : World} {K : PySem.W.Frag} {mg : Str → Option Value} {base : Heap} {CX : CXT} {k : Nat} {f : Addr} {fd : FuncData} {ps : List Str} {sp : Sp} (F : FnOk P w K mg base CX k f fd ps sp) : FnG P w K mg base CX k f fd ps sp :=
  ⟨F.len, fun A fr s H as us vs Q E r _ => F.run A fr s H as us vs Q E r⟩
/-- THE RULE for such a def -/
theorem funG {P : Program} {w : World} {K : PySem.W.Frag} {mg : Str → Option Value} {base : Heap} {CX : CXT} {x qual : Str} {st : Stmt} {f : Addr} {fd : FuncData} {N ps : List Str} {k : Nat} {sp : Sp}
    (F : Fun K x qual st f fd) (S : FnScope N ps (defScope st)) (len : ∀ vs H Q E, sp vs H Q E → vs.length = ps.length)
    (body : ∀ (cd : Value) (A : Around) (fr : List Env) (s : Shared) (H : Hp) (vs : List V) (Q : VK) (E : XK), Room k (A.deeper (envOfC qual (defScope st) s.heap.objs.size f cd)) → A.guards = some [] → sp vs H Q E →
      ∃ t, PSs (cxOf CX P w K mg base N qual (defScope st) f cd A fr s H E) (defBody st) t ∧ t { nx := fun _ H' => Q .non H', rt := Q } (L2.start N vs) H) :
    FnG P w K mg base CX (k + 1) f fd ps sp := by
  obtain ⟨oc, od, kV, doc, pm, an, cd, ct, sl, rfl, lk, hcd⟩ := F.ex
  exact ⟨len, fun A fr s H as us vs Q E hr hg e0 hb r h => LamX.run_ofS lk hcd S hr e0 hb r (len _ _ _ _ h) fun hr' => body cd A fr s H vs Q E hr' hg h⟩
/-- a def whose code object is known (it makes lambdas) -/
structure FunC (K : PySem.W.Frag) (x qual : Str) (st : Stmt) (c f : Addr) (fd : FuncData) : Prop where
  ex : ∃ (oc : Value) (od : Option Addr) (kV doc pm : Value) (an : Option Addr) (ct : Value) (osl : Array (Option Value)),
    fd = PySem.W.fnOf x qual (defArgs st) (defBody st) (defScope st) .none kV doc pm an (.ref c) ct ∧ K.lookup f = some ⟨oc, od, .func fd, osl⟩ ∧ PySem.W.codeIn K (.ref c) qual = true
theorem FunC.fun {K : PySem.W.Frag} {x qual : Str} {st : Stmt} {c f : Addr} {fd : FuncData} (F : FunC K x qual st c f fd) (k : PySem.W.keepIn K (.ref f) = true) : Fun K x qual st f fd := by
  obtain ⟨oc, od, kV, doc, pm, an, ct, sl, e, l, h⟩ := F.ex
  exact ⟨⟨oc, od, kV, doc, pm, an, .ref c, ct, sl, e, l, h⟩, k⟩
theorem funGC {P : Program} {w : World} {K : PySem.W.Frag} {mg : Str → Option Value} {base : Heap} {CX : CXT} {x qual : Str} {st : Stmt} {c f : Addr} {fd : FuncData} {N ps : List Str} {k : Nat} {sp : Sp}
    (F : FunC K x qual st c f fd) (S : FnScope N ps (defScope st)) (len : ∀ vs H Q E, sp vs H Q E → vs.length = ps.length)
    (body : ∀ (A : Around) (fr : List Env) (s : Shared) (H : Hp) (vs : List V) (Q : VK) (E : XK), Room k (A.deeper (envOfC qual (defScope st) s.heap.objs.size f (.ref c))) → A.guards = some [] → sp vs H Q E →
      ∃ t, PSs (cxOf CX P w K mg base N qual (defScope st) f (.ref c) A fr s H E) (defBody st) t ∧ t { nx := fun _ H' => Q .non H', rt := Q } (L2.start N vs) H) :
    FnG P w K mg base CX (k + 1) f fd ps sp := by
  obtain ⟨oc, od, kV, doc, pm, an, ct, sl, rfl, lk, hcd⟩ := F.ex
  exact ⟨len, fun A fr s H as us vs Q E hr hg e0 hb r h => LamX.run_ofS lk hcd S hr e0 hb r (len _ _ _ _ h) fun hr' => body A fr s H vs Q E hr' hg h⟩
section
variable {X : Cx} {CX : CXT} {k : Nat} {f : Addr} {fd : FuncData} {ps : List Str} {sp : Sp} {E : XK} {x : Str} {p pos : Pos} {e : Expr} {es : List Expr} {t : TA}
theorem runG {pins : List (Addr × Obj)} {σ : L2.St} {H : Hp} {s : Shared} {Q : VK} {us : List Value} {vs : List V} (F : FnG X.prog X.w X.K X.mg X.base CX k f fd ps sp) (hr : Room k X.A) (hg : X.A.guards = some [])
    (hb : Binds X.K fd ps []) (hx : Passes CX X E) (I : Inv X pins σ H s) (r : Vals vs us) (h : sp vs H Q E) : wpAny (model X.prog X.w) X.A (call (.ref f) us) (EP X pins σ Q) X.xe s := by
  have hl : (us ++ []).length = ps.length := by rw [List.append_nil, ← r.length]; exact F.len _ _ _ _ h
  have b := hb s us I.kIn hl
  rw [List.append_nil] at b
  refine wpAny_call (codeAny_mono (F.run X.A X.stack s H ⟨us, []⟩ us vs Q E hr hg I.env0 b r h) fun q s' z => ?_)
  match q, z with
  | .error e, z => exact hx pins σ H s e s' I z
  | .ok (.ret u), z => exact I.after z
/-- a def of the module, called by its name, as one bundle -/
structure Fn (P : Program) (w : World) (K : PySem.W.Frag) (mg : Str → Option Value) (base : Heap) (CX : CXT) (k : Nat) (x : Str) (ps : List Str) (sp : Sp) : Prop where
  ex : ∃ (f : Addr) (fd : FuncData), FnG P w K mg base CX k f fd ps sp ∧ mg x = some (.ref f) ∧ PySem.W.keepIn K (.ref f) = true ∧ Binds K fd ps [] ∧
    ∀ (s : Shared) (ws : List Value), K.In s.heap → ws.length = ps.length → BindsTo s fd ⟨[], ps.zip ws⟩ (ps.zip ws)
theorem pe_f {j : Nat} (c : Fn X.prog X.w X.K X.mg X.base CX k x ps sp) (hr : Room j X.A) (hg : X.A.guards = some []) (hx : Passes CX X E) (ha : PA X (e :: es) t) (hk : k ≤ j := by decide) (gl : Gl X x := by rfl)
    (hdb : (x == ("__debug__" : Str)) = false := by decide) (he : starEach (e :: es) X.env = (false, eval e X.env) :: starEach es X.env := by rfl) (hpl : (backTo pos (starEach es X.env)).any (·.1) = false := by rfl) :
    PE X (.Call (.Name x p) (e :: es) [] pos) (tCall sp [] E t) := by
  obtain ⟨f, fd, F, m, kp, b, _⟩ := c.ex
  constructor
  intro pins s σ H Q I h
  refine wpAny_Call_Name_kw (ld_glob I gl m ?_ hdb)
  refine PySem.W.callWith_K (h₀ := X.base) I.ok.mod.kin kp (thn (ha.run pos pins s σ H _ I h) fun us s1 q => ?_) he hpl
  obtain ⟨vs, H1, I1, r, q⟩ := q
  rw [List.append_nil] at q
  exact ⟨I1.kIn, runG F (hr.mono hk) hg b hx I1 r q⟩
end
end L3
namespace L3
open PySem PySem.Spec PyProof.Rows L2 LamX
/-- what is tracked at the law's entry: the script, locked, where it is no object of the module's own; the tables -/
def H0 (K : PySem.W.Frag) (a : Addr) (o : Obj) (xs : List V) (ts : List Addr) : Hp := fun b =>
  if b ∈ ts then some (.tbl #[]) else if b = a ∧ (K.lookup a).isNone = true then some (.frz o (.lst xs)) else none
theorem lawG {P : Program} {w : World} {K : PySem.W.Frag} {mg mb : Str → Option Value} {CX : CXT} {k : Nat} {fa a : Addr} {cs : List (Addr × Addr)} {fd : FuncData} {x : Str} {sp : Sp} {s : Shared} {vs : List Value} {ns : List Int}
    (kin : K.In s.heap) (glo : s.heap.Ns mainGlobals mg) (blt : s.heap.Ns builtinsNs mb) (bls : ∀ y : Str, y ≠ "__name__" → mb y = bootBuiltins y) (lims : s.heap.NoLimit) (gen : s.gens = #[])
    (tabs : ∀ p ∈ cs, s.heap.get? p.2 = some { cls := .none, data := .fields #[] }) (tabK : ∀ p ∈ cs, K.lookup p.2 = none) (codes : ∀ p ∈ cs, PySem.W.CodeHd s.heap p.1 p.2)
    (bmod : ∃ (bm : Addr) (ob : Obj), mg "__builtins__" = some (.ref bm) ∧ bm ≠ builtinsNs ∧ s.heap.get? bm = some ob ∧ ob.cls = .type "module" ∧ ob.dict = some builtinsNs ∧ ob.data = .plain)
    (scr : s.heap.get? a = some { cls := .type "list", data := .seq vs.toArray }) (hInts : IntsAre vs ns) (few : ns.length ≤ sizeLine) (room : Room k callerA)
    (F : ∀ base : Heap, K.In base → base.Ns mainGlobals mg → (∀ p ∈ cs, TabB base mg p.1 p.2) → FnG P w K mg base CX k fa fd [x] sp)
    (bind : ∀ (s : Shared) (u : Value), BindsTo s fd ⟨[u], []⟩ [(x, u)])
    (says : ∀ H : Hp, (∀ p ∈ cs, H p.2 = some (.tbl #[])) → SqL K H a (ns.map V.int) → sp [.ref a] H (fun v _ => v = .bl true) fun _ _ _ => False)
    (none' : ∀ H e s', CX [] H s (fun _ _ _ => False) e s' → False) :
    codeAny (model P w) callerA (.call (.ref fa) ⟨[.ref a], []⟩) (fun r s' => r = .ok (.ret (.bool true)) ∧ OldK s.heap s'.heap ∧ s'.os = s.os ∧ AllBare s'.gens) s := by
  have rv := vals_ints hInts
  have lv := hInts.length
  generalize hts : cs.map (·.2) = ts
  have mem : ∀ p ∈ cs, p.2 ∈ ts := fun p hp => by rw [← hts]; exact List.mem_map.mpr ⟨p, hp, rfl⟩
  have isT : ∀ b ∈ ts, s.heap.get? b = some { cls := .none, data := .fields #[] } ∧ K.lookup b = none := fun b hb => by
    rw [← hts] at hb
    obtain ⟨p, hp, rfl⟩ := List.mem_map.mp hb
    exact ⟨tabs p hp, tabK p hp⟩
  have aT : a ∉ ts := fun z => by
    have q := (isT a z).1
    rw [scr] at q
    exact nomatch congrArg Obj.data (Option.some.inj q)
  generalize hH : H0 K a { cls := .type "list", data := .seq vs.toArray } (ns.map V.int) ts = H
  have atT : ∀ b ∈ ts, H b = some (.tbl #[]) := fun b hb => by rw [← hH]; exact if_pos hb
  have cases_ : ∀ b, H b = none ∨ b ∈ ts ∨ (b = a ∧ K.lookup a = none ∧ H b = some (.frz { cls := .type "list", data := .seq vs.toArray } (.lst (ns.map V.int)))) := fun b => by
    by_cases h1 : b ∈ ts
    · exact .inr (.inl h1)
    · by_cases h2 : b = a ∧ (K.lookup a).isNone = true
      · refine .inr (.inr ⟨h2.1, by simpa using h2.2, ?_⟩)
        rw [← hH]; unfold H0; rw [if_neg h1, if_pos h2]
      · left; rw [← hH]; unfold H0; rw [if_neg h1, if_neg h2]
  have hok : HOk P w H s.heap := fun b o e => by
    rcases cases_ b with q | q | ⟨rfl, _, q⟩
    · rw [q] at e; cases e
    · rw [atT b q] at e; cases e; exact (isT b q).1
    · rw [q] at e; cases e
      exact ⟨scr, by rw [List.length_map]; exact few, vs, _, rv, scr⟩
  have sq : SqL K H a (ns.map V.int) := by
    cases hk : K.lookup a with
    | none => exact .inl (.inr ⟨_, by rw [← hH]; unfold H0; rw [if_neg aT, if_pos ⟨rfl, by rw [hk]; rfl⟩]⟩)
    | some o =>
      have z := kin a o hk
      rw [scr] at z
      cases z
      exact .inr ⟨_, vs.toArray, _, hk, rfl, rfl, rfl, by rw [List.size_toArray, lv]; exact few, by simpa using rv⟩
  -- what isn't tracked lies in the ground
  have gr : ∀ {b : Addr} {o : Obj}, s.heap.get? b = some o → H b = none → (hidT s.heap H).get? b = some o := fun e n => hidT_get e n
  have free : ∀ {b : Addr} {o : Obj}, s.heap.get? b = some o → (∀ us n, o.data ≠ .seq us n) → o.data ≠ .fields #[] → H b = none := fun {b o} e h1 h2 => by
    rcases cases_ b with q | q | ⟨rfl, _, _⟩
    · exact q
    · rw [(isT b q).1] at e; cases e; exact (h2 rfl).elim
    · rw [scr] at e; cases e; exact (h1 _ _ rfl).elim
  have ns' : ∀ {b : Addr} {m : Str → Option Value}, s.heap.Ns b m → (hidT s.heap H).Ns b m := fun {b m} h => by
    obtain ⟨o, es, ep, e, d, r⟩ := h
    exact ⟨o, es, ep, gr e (free e (fun _ _ z => by rw [d] at z; cases z) fun z => by rw [d] at z; cases z), d, r⟩
  have kin' : K.In (hidT s.heap H) := fun b o e => gr (kin b o e) (by
    rcases cases_ b with q | q | ⟨rfl, q, _⟩
    · exact q
    · rw [(isT b q).2] at e; cases e
    · rw [q] at e; cases e)
  have lim' : (hidT s.heap H).NoLimit := by
    obtain ⟨mc, h1, h2⟩ := lims
    exact ⟨mc, ns' h1, h2⟩
  have tb : ∀ p ∈ cs, TabB (hidT s.heap H) mg p.1 p.2 := fun p hp => by
    refine ⟨?_, ?_, fun z => ?_⟩
    · obtain ⟨o, us, file, tf, flags, tg, inF, text, tt, e1, r1, r2, r3, r⟩ := codes p hp
      refine ⟨o, us, file, tf, flags, tg, inF, text, tt, gr e1 (free e1 (fun _ _ z => by rw [r2] at z; cases z) fun z => ?_), r1, r2, r3, r⟩
      rw [r2] at z
      cases z
      simp at r3
    · obtain ⟨bm, ob, b1, b2, b3, b4, b5, b6⟩ := bmod
      refine ⟨bm, ob, b1, b2, fun z => ?_, fun z => ?_, gr b3 (free b3 (fun _ _ z => by rw [b6] at z; cases z) fun z => by rw [b6] at z; cases z), b4, b5, b6⟩
      · obtain ⟨o, es, ep, e, hd, _⟩ := glo
        rw [z, e] at b3; cases b3; rw [hd] at b6; cases b6
      · rw [z, tabs p hp] at b3; cases b3; cases b6
    · obtain ⟨o, es, ep, e, hd, _⟩ := glo
      rw [z, tabs p hp] at e; cases e; cases hd
  have e0 : Env0 P w K mg (hidT s.heap H) callerA [] s H :=
    ⟨rfl, ⟨kin', ns' glo, ⟨mb, ns' blt, bls⟩, lim'⟩, fun b o e => of_hidT e, Nat.le_of_eq (hidT_size _ _), trivial, fun b hb => absurd (show b ∈ ([] : List Addr) from hb) (by simp), hok, .of_eq gen⟩
  refine codeAny_mono ((F _ kin' (ns' glo) tb).run callerA [] s H ⟨[.ref a], []⟩ [.ref a] [.ref a] _ _ room rfl e0 (bind s (.ref a)) (.cons rfl .nil) (says H (fun p hp => atT _ (mem p hp)) sq)) fun r s' h => ?_
  match r, h with
  | .error e, h => exact (none' H e s' h).elim
  | .ok (.ret u), h =>
    obtain ⟨v, H', os, bare, un, hok', r', q⟩ := h
    have q' : v = .bl true := q
    subst q'
    obtain rfl : u = Value.bool true := r'
    have nofr : ∀ b : Addr, b ∉ frs [] := fun b z => absurd (show b ∈ ([] : List Addr) from z) (by simp)
    have kept : ∀ b o, b ∉ ts → s.heap.get? b = some o → s'.heap.get? b = some o := fun b o nb e => by
      rcases cases_ b with q | q | ⟨_, _, q⟩
      · exact un.keep b o e q (nofr b) (by simp)
      · exact absurd q nb
      · have e1 := (hok b _ q).1
        have e2 := (hok' b _ (un.frzs b _ _ q)).1
        rw [e] at e1; cases e1; exact e2
    have tgrow : ∀ p ∈ cs, ∃ more : Array Value, s'.heap.get? p.2 = some { cls := .none, data := .fields more } := fun p hp => by
      obtain ⟨more, z⟩ := un.tbls p.2 #[] (atT _ (mem p hp))
      exact ⟨_, hok' p.2 _ z⟩
    have back : ∀ b ∈ ts, ∃ p ∈ cs, p.2 = b := fun b hb => by
      rw [← hts] at hb
      obtain ⟨p, hp, e⟩ := List.mem_map.mp hb
      exact ⟨p, hp, e⟩
    refine ⟨rfl, ⟨fun b o e => ?_, fun b o e => ?_⟩, os, bare⟩
    · by_cases hb : b ∈ ts
      · obtain ⟨p, hp, rfl⟩ := back b hb
        obtain ⟨more, hm⟩ := tgrow p hp
        rw [tabs p hp] at e
        cases e
        refine .inr (.inl ⟨((codes p hp).tab (tabs p hp)).isCodeTable, rfl, #[], more, rfl, ?_⟩)
        rw [Array.empty_append]
        exact hm
      · exact .inl (kept b o hb e)
    · by_cases hb : b ∈ ts
      · obtain ⟨p, hp, rfl⟩ := back b hb
        obtain ⟨more, hm⟩ := tgrow p hp
        exact ⟨_, hm⟩
      · exact ⟨o, kept b o hb e⟩
/-- what a law's own text must bring -/
structure LawG (l : PySem.W.OpenLaw) (w : World) (K : PySem.W.Frag) (CX : CXT) (k n : Nat) (x : Str) (mg : Str → Option Value) (fa : Addr) (h : Heap) : Prop where
  ex : ∃ (fd : FuncData) (cs : List (Addr × Addr)) (sp : Sp), (∀ p ∈ cs, h.get? p.2 = some { cls := .none, data := .fields #[] }) ∧ (∀ p ∈ cs, K.lookup p.2 = none) ∧ (∀ p ∈ cs, PySem.W.CodeHd h p.1 p.2) ∧
    (∀ (s : Shared) (u : Value), BindsTo s fd ⟨[u], []⟩ [(x, u)]) ∧
    (∀ (H : Hp) (a : Addr) (ns : List Int), ns.length ≤ n → (∀ p ∈ cs, H p.2 = some (.tbl #[])) → SqL K H a (ns.map V.int) → sp [.ref a] H (fun v _ => v = .bl true) fun _ _ _ => False) ∧
    ∀ base : Heap, K.In base → base.Ns mainGlobals mg → (∀ p ∈ cs, TabB base mg p.1 p.2) → FnG l.prog w K mg base CX k fa fd [x] sp
theorem walkG {l : PySem.W.OpenLaw} {n k : Nat} {q : Program} {loose : List Str} {XP : (Str → Option Value) → Heap → Prop} {YP : World → Heap → Prop} {d : DefRec} {K : Params → PySem.W.Frag} {CX : World → CXT} {x : Str}
    (hn : l.most = some n) (hn2 : n ≤ sizeLine) (hdf : d.params.defaults = []) (hr : Room k callerA) (hY : ∀ (w : World) (h : Heap), YP w h → (K w.params).In h)
    (F : ∀ (w : World) (mg : Str → Option Value) (fa : Addr) (h : Heap), YP w h → (K w.params).In h → h.Ns mainGlobals mg → mg d.name = some (.ref fa) → LawG l w (K w.params) (CX w) k n x mg fa h)
    (hCX : ∀ (w : World) (H : Hp) (s : Shared) (e : Value) (s' : Shared), CX w [] H s (fun _ _ _ => False) e s' → False) :
    PySem.W.WalkO q loose XP YP l.row.toRowW d [] (fun f vs => PySem.call f vs) := by
  refine Att.attach_callB hn hdf fun w s₀ s₁ mg mb fa o pm cd doc a vs ns G Y ho hd hcd hmg hobj hints hlen _ hg => ?_
  have kx := hY w _ Y
  obtain ⟨fd, cs, sp, t1, t2, t3, hb, hs, hF⟩ := (F w mg fa _ Y kx G.T.g hmg).ex
  exact lawG kx G.T.g G.T.b G.T.builtins G.T.nolimit hg t1 t2 t3 G.T.bmain hobj hints (Nat.le_trans hlen hn2) hr hF hb (fun H hH hS => hs H a ns hlen hH hS) fun H e s' => hCX w H s₁ e s'
end L3
end
section
namespace L3
open PySem PySem.Spec PyProof.Rows L2
section
variable {X : Cx}
mutual
theorem dp_noDict {K : PySem.W.Frag} {H : Hp} : ∀ (d : PyData) (v : V), Dp K H v d → d.hasDict = false
  | .none, _, _ => rfl
  | .bool _, _, _ => rfl
  | .int _, _, _ => rfl
  | .str _, _, _ => rfl
  | .list ds, _, h => by
    cases h with
    | lst _ a => exact dp_noDictAll ds _ a
  | .tuple ds, _, h => by
    cases h with
    | tup _ a => exact dp_noDictAll ds _ a
  | .dict _, _, h => nomatch h
theorem dp_noDictAll {K : PySem.W.Frag} {H : Hp} : ∀ (ds : List PyData) (vs : List V), DpAll K H vs ds → PyData.hasDictAll ds = false
  | [], _, _ => rfl
  | d :: ds, _, h => by
    cases h with
    | cons a b =>
      unfold PyData.hasDictAll
      rw [dp_noDict d _ a, dp_noDictAll ds _ b]
      rfl
end
def repS (z : Str) (n : Nat) : Str := ⟨(List.replicate n z.cps).foldl (· ++ ·) #[]⟩
def rMulS : R2 := fun x y H Q => ∃ z n, x = .str z ∧ y = .int n ∧ 2 ≤ n ∧ n ≤ 100000 ∧ z.length = 1 ∧ Q (.str (repS z n.toNat)) H
theorem repS_len (z : Str) (n : Nat) : (repS z n).length = n * z.length := by
  have h : ∀ (l : List (Array Nat)) (a : Array Nat), (l.foldl (· ++ ·) a).size = a.size + (l.map (·.size)).sum := by
    intro l
    induction l with
    | nil => intro a; simp
    | cons b r ih => intro a; rw [List.foldl_cons, ih, Array.size_append, List.map_cons, List.sum_cons]; omega
  show ((List.replicate n z.cps).foldl (· ++ ·) #[]).size = _
  rw [h, List.map_replicate, List.sum_replicate_nat]
  simp [Str.length]
theorem op_mulS : OpR X (binaryOp .Mult) rMulS := by
  intro pins s σ H x y v u Q I rx ry h
  obtain ⟨z, n, rfl, rfl, h1, h2, h3, q⟩ := h
  obtain ⟨t, rfl⟩ := rx
  obtain ⟨t', rfl⟩ := ry
  have c1 : ¬ n < 1 := by omega
  have c2 : (n == 1 || z.length == 0) = false := by
    rw [h3, show (n == 1) = false from beq_eq_false_iff_ne.mpr (by omega)]
    rfl
  refine P.mul_str (by rw [decide_eq_false (by omega), decide_eq_false (by omega)]; rfl) (fun _ _ => ?_) (fun _ _ => ?_) ?_
  · rw [h3]
    have : (1 : Int) ≤ (2 ^ 63 - 1) / n := Int.le_ediv_of_mul_le (by omega) (by omega)
    omega
  · unfold PySem.Builtin.Str.tooLong
    rw [h3]
    exact decide_eq_false (by rw [sizeLine_eq]; omega)
  · rw [if_neg c1, c2, if_neg (by decide)]
    refine ⟨?_, ⟨.str (repS z n.toNat), H, I.tok _, ⟨_, rfl⟩, q⟩⟩
    show (repS z n.toNat).length ≤ sizeLine
    rw [repS_len, h3, sizeLine_eq]
    omega
theorem vals_of_get : ∀ {xs : List V} {us : List Value}, xs.length = us.length → (∀ (i : Nat) x u, xs[i]? = some x → us[i]? = some u → RelV x u) → Vals xs us
  | [], [], _, _ => .nil
  | x :: xs, u :: us, hl, h => .cons (h 0 x u rfl rfl) (vals_of_get (by simpa using hl) fun i y v a b => h (i + 1) y v (by simpa using a) (by simpa using b))
  | [], _ :: _, hl, _ => by simp at hl
  | _ :: _, [], hl, _ => by simp at hl
def chars (z : Str) : List V := z.cps.toList.map fun c => V.str ⟨#[c]⟩
def rListS : List V → Hp → VK → Prop := fun xs H Q => ∃ z, xs = [.str z] ∧ z.length ≤ sizeLine ∧ ∀ l, H l = none → ap Q (.ref l) (upd H l (.lst (chars z)))
theorem call_listS (hc : X.calm = true) : CallR X (.type "list") rListS := by
  intro pins s σ H xs us Q I r h
  obtain ⟨z, rfl, hz, q⟩ := h
  obtain ⟨u, rfl, rx⟩ := vals1 r
  obtain ⟨t, rfl⟩ := rx
  refine call_list_str (I.ok.hd hc) z t (fun h' tk acc c k e it => ?_) hz
  have rl : Vals (chars z) acc.toList := by
    refine vals_of_get ?_ fun i x u hx hu => ?_
    · unfold chars
      rw [List.length_map, Array.length_toList, Array.length_toList, it.1]
    · obtain ⟨c, t, e1, rfl⟩ := it.2 i u (by simpa using hu)
      have e2 : z.cps.toList[i]? = some c := by simpa using e1
      unfold chars at hx
      rw [List.getElem?_map, e2] at hx
      cases hx
      exact ⟨t, rfl⟩
  refine ⟨.ref s.heap.objs.size, _, I.laid (t' := tk) k (Nat.le_refl _) (o := .lst (chars z)) ⟨by unfold chars; rw [List.length_map]; exact hz, acc.toList, c, rl, by simpa using e⟩, rfl, q _ (I.hok.fresh (Nat.le_refl _))⟩
end
end L3
namespace L3
open PySem PySem.Calls PySem.NumText PyProof.Rows PySem.W PySem.W.KIN
def DigitsFree (h : Heap) : Prop := ∃ mc, h.Ns cStatics mc ∧ mc "sys.int_max_str_digits" = none
theorem wp_digits {M : Model} {A : Around} {E : Value → Shared → Prop} {s : Shared} {Q : Nat → Shared → Prop} (hm : DigitsFree s.heap) (h : Q 4300 s) : wpAny M A PySem.Builtin.intMaxStrDigits Q E s := by
  obtain ⟨mc, h1, h2⟩ := hm
  unfold PySem.Builtin.intMaxStrDigits
  refine wpAny_bind (wpAny_nsGet h1 ?_)
  rw [h2]
  exact wpAny_pure h
theorem wp_textL {M : Model} {A : Around} {E : Value → Shared → Prop} {s : Shared} {Q : Value → Shared → Prop} {v : Value} {text : List Nat} {n : Int} (hm : DigitsFree s.heap)
    (hs : ¬ (text.takeWhile (· != 0)).length ≤ 640) (hr : (int_private% "readNumeral") 4300 10 (text.takeWhile (· != 0)) = (int_private% "Numeral.value") n)
    (ha : ((text.takeWhile (· != 0)).length == text.length) = true) (h : Q (.int n s.toks) { s with toks := s.toks + 1 }) :
    wpAny M A ((int_private% "intFromText") v text 10) Q E s := by
  obtain ⟨hp, g, d, tk, os⟩ := s
  repeat (any_goals (first
    | assumption
    | (with_reducible refine wpAny_ite_false (decide_eq_false hs) ?_)
    | (with_reducible refine wpAny_ite_true (decide_eq_true ha) ?_)
    | (with_reducible refine wp_digits hm ?_)
    | wp_step))
  all_goals (try rw [hr])
  all_goals (try dsimp only)
  repeat (any_goals (first
    | assumption
    | (with_reducible refine wpAny_ite_true (decide_eq_true ha) ?_)
    | wp_step))
structure HidL (p : Prop) : Prop where
  out : p
theorem meets_textL {x : PySem.Str} {u : Tok} {n : Int} (hl : ¬ (numSeenOf x).length ≤ 640) (hr : (int_private% "readNumeral") 4300 10 (numSeenOf x) = (int_private% "Numeral.value") n)
    (ha : ((numSeenOf x).length == (numTextOf x).length) = true) : Meets (Builtin.«int.__new__» ⟨[.type "int", .str x u], []⟩) (fun _ R s => DigitsFree s.heap ∧ R (.ok (.ret (.int n s.toks))) { s with toks := s.toks + 1 }) := by
  intro prog w A R s h
  obtain ⟨hm, h⟩ := h
  obtain ⟨hp, g, d, tk, os⟩ := s
  have g1 := F.conv_sub_int
  have g2 := F.madeHere_int
  have g3 := str_int
  have g4 := str_idx
  have g5 := str_trunc
  have g6 : typeOf (.str x u) = pure (.type "str") := rfl
  have hk := HidL.mk (And.intro hl (And.intro hr ha))
  clear hl hr ha
  repeat (any_goals (first
    | assumption
    | ((with_reducible show wpAny _ _ ((int_private% "intFromText") _ _ _) _ _ _); refine wp_textL hm hk.out.1 hk.out.2.1 hk.out.2.2 ?_)
    | wp_step))
theorem call_textL {prog : Program} {w : World} {A : Around} {E : Value → Shared → Prop} {s : Shared} {Q : Value → Shared → Prop} {x : PySem.Str} {u : Tok} {n : Int} (hm : DigitsFree s.heap) (hl : ¬ (numSeenOf x).length ≤ 640) (hr : (int_private% "readNumeral") 4300 10 (numSeenOf x) = (int_private% "Numeral.value") n)
    (ha : ((numSeenOf x).length == (numTextOf x).length) = true) (h : Q (.int n s.toks) { s with toks := s.toks + 1 }) :
    wpAny (model prog w) A (call (.type "int") [.str x u]) Q E s := call_int_1 (meets_textL hl hr ha) ⟨hm, rfl, h⟩
end L3
namespace L3
open PySem PySem.Spec PyProof.Rows L2
namespace FnK
theorem slot : Slot "function" "__getattribute__" "object.__getattribute__" := .of (owner := "object") (n := "__getattribute__")
  (by rw [typeLookup_type, builtinLookup_eq_fast]; kernel_rfl) (by decide +kernel) (by decide +kernel) (by decide +kernel) (by first | exact .inl (by decide +kernel) | exact .inr (by decide +kernel)) (by rw [isSubtype_type]; kernel_rfl)
theorem look : typeLookup (.type "function") "__class__" = pure (some (.builtin "object.__class__")) := by
  rw [typeLookup_type, builtinLookup_eq_fast]; kernel_rfl
theorem below : isSubtype (.type "function") (.type (".".intercalate ("object.__class__".cutAt '.').dropLast)) = pure true := by
  rw [F.owner_object_class, isSubtype_type]; kernel_rfl
section
variable {prog : Program} {w : World} {A : Around} {E : Value → Shared → Prop} {hp : Heap} {gs : Array GenState} {dr : Drawn} {tk : Nat} {os : OsState} {f : Addr} {ob : Obj}
theorem got {R : Result → Shared → Prop} (e : hp.get? f = some ob) (c : ob.cls = .type "function") (k : R (.ok (.ret (.type "function"))) ⟨hp, gs, dr, tk, os⟩) :
    codeAny (model prog w) A (.call (.builtin "getset_descriptor.__get__") ⟨[.builtin "object.__class__", .ref f, .type "function"], []⟩) R ⟨hp, gs, dr, tk, os⟩ := by
  have y1 : (⟨hp, gs, dr, tk, os⟩ : Shared).TypeIs (.ref f) "function" := ⟨_, e, c⟩
  have y2 : (⟨hp, gs, dr, tk, os⟩ : Shared).TypeIs (.builtin "object.__class__") "getset_descriptor" := F.typeOf_object_class
  have y3 := below
  refine codeAny_call_builtin F.slot_gs_get.plain F.entry_gs_get (F.slot_gs_get.check _ _ _ _ _ _ _ _ y2 (F.args_gs_get _ _ _) ?_)
  repeat (any_goals (first | assumption | wp_step))
  refine ⟨Code.quiet_builtin _ (by decide +kernel), codeAny_builtin F.entry_object_class ?_⟩
  repeat (any_goals (first | assumption | wp_step))
theorem entry {t : Tok} {Q : Fin → Shared → Prop} (e : hp.get? f = some ob) (c : ob.cls = .type "function") (k : Q (.done (.ret (.type "function"))) ⟨hp, gs, dr, tk, os⟩) :
    wpAny (model prog w) A (Builtin.«object.__getattribute__» ⟨[.ref f, .str "__class__" t], []⟩) Q E ⟨hp, gs, dr, tk, os⟩ := by
  have y1 : (⟨hp, gs, dr, tk, os⟩ : Shared).TypeIs (.ref f) "function" := ⟨_, e, c⟩
  have y2 : (⟨hp, gs, dr, tk, os⟩ : Shared).TypeIs (.builtin "object.__class__") "getset_descriptor" := F.typeOf_object_class
  have y3 := look
  have y4 := F.typeOf_object_class
  have y5 := F.slot_gs_get.lookup
  have y6 := F.slot_gs_set.lookup
  repeat (any_goals (first | assumption | wp_step))
  refine got e c ?_
  repeat (any_goals (first | assumption | wp_step))
theorem by_ {t : Tok} {Q : Value → Shared → Prop} (e : hp.get? f = some ob) (c : ob.cls = .type "function") (k : Q (.type "function") ⟨hp, gs, dr, tk, os⟩) :
    wpAny (model prog w) A (getAttrBy (.ref f) (.str "__class__" t) false) Q E ⟨hp, gs, dr, tk, os⟩ := by
  have y1 : (⟨hp, gs, dr, tk, os⟩ : Shared).TypeIs (.ref f) "function" := ⟨_, e, c⟩
  have y2 := slot.lookup
  have y3 := slot.bind (.ref f)
  repeat (any_goals (first | assumption | wp_step))
  refine codeAny_call_builtin slot.plain F.entry_object_getattribute (slot.check _ _ _ _ _ _ _ _ y1 (F.args_object_getattribute_2 _ _) (entry e c ?_))
  repeat (any_goals (first | assumption | wp_step))
theorem attr {Q : Option Value → Shared → Prop} (e : hp.get? f = some ob) (c : ob.cls = .type "function") (k : Q (some (.type "function")) ⟨hp, gs, dr, tk + 1, os⟩) :
    wpAny (model prog w) A (getAttr? (.ref f) "__class__") Q E ⟨hp, gs, dr, tk, os⟩ := by
  unfold getAttr? getAttrBy?
  repeat (any_goals (first | assumption | with_reducible apply by_ e c | wp_step))
end
theorem kit {K : PySem.W.Frag} {f : Addr} : PySem.W.KitX K (.ref f) (.type "function") (PySem.W.KitAt f "function") :=
  PySem.W.kitx_of PySem.W.kitAt_ty (fun {_ _ _ _ _ s} p k => by
    obtain ⟨hp, gs, dr, tk, os⟩ := s
    obtain ⟨o, h1, h2⟩ := p
    exact attr h1 h2 k)
end FnK
/-- a function object -/
def FnV (f : Addr) : HO := .ext fun h => ∃ o, h.get? f = some o ∧ o.cls = .type "function"
/-- a value's type -/
inductive TyA (K : PySem.W.Frag) (H : Hp) : V → Value → Prop where
  | x {v : V} {t : Value} (h : TyX K H v t) : TyA K H v t
  | fn {f : Addr} (e : H f = some (FnV f)) : TyA K H (.ref f) (.type "function")
def rIsiA (K : PySem.W.Frag) : List V → Hp → VK → Prop := fun xs H Q => ∃ (x c : V) (t u : Value) (b : Bool), xs = [x, c] ∧ ClsV c u ∧ TyA K H x t ∧ PySem.W.kitOne K t u = some b ∧ Q (.bl b) H
theorem callIsi {X : Cx} : CallR X (.builtin "isinstance") (rIsiA X.K) := by
  intro pins s σ H xs us Q I r h
  obtain ⟨x, c, t, u, b, rfl, k, ty, e, q⟩ := h
  cases ty with
  | x ty => exact call_isi pins s σ H _ us Q I r ⟨x, c, t, u, b, rfl, k, ty, e, q⟩
  | @fn f ef =>
    obtain ⟨u1, u2, rfl, r1, r2⟩ := vals2 r
    have e2 := k.eq r2
    subst e2
    cases (show u1 = Value.ref f from r1)
    obtain ⟨⟨o, h1, h2⟩, _, _⟩ := (show ObjOk X.prog X.w H s.heap f (FnV f) from I.hok f _ ef)
    exact PySem.W.kia_one (FnK.kit (K := X.K) (f := f)) I.kIn ⟨o, h1, h2⟩ e (fun z => nomatch z) fun tk => ⟨.bl b, H, I.tok tk, rfl, q⟩
end L3
namespace L3
open PySem PySem.Spec PyProof.Rows L2 LamX
theorem Tabs.up {T : List (Addr × Str)} {H : Hp} {p : Addr} {o : HO} (t : Tabs T H) (h : H p = none) : Tabs T (upd H p o) := t.ext (ex_new h)
section
variable {X : Cx}
def rAddU : R2 := fun x y H Q => rI0 (fun i j => V.int (i + j)) x y H Q ∨ (∃ i j, x = .str i ∧ y = .str j ∧ i.length + j.length ≤ sizeLine ∧ Q (.str (i ++ j)) H) ∨ rCat x y H Q
theorem opAdd : OpR X (binaryOp .Add) rAddU := OpR.or op_add (OpR.or op_add_str op_cat)
def rMulU : R2 := fun x y H Q => rI IntMulOk (fun i j => V.int (i * j)) x y H Q ∨ rMulS x y H Q ∨ rRep x y H Q
theorem opMul : OpR X (binaryOp .Mult) rMulU := OpR.or (opI fun _ _ _ _ _ _ _ hc q => mul_int q hc) (OpR.or op_mulS op_rep)
theorem opEq (hu : X.A.units + 64 < cLine) : OpR X (compareOp .Eq) (rEqU X.K) := OpR.or op_eq (op_eqD hu)
theorem opNe (hu : X.A.units + 64 < cLine) : OpR X (compareOp .NotEq) (rNeU X.K) := OpR.or op_ne (op_neD hu)
def rIsU : R2 := fun x y H Q => (y = .non ∧ Q (.bl (decide (x = .non))) H) ∨ rIsB x y H Q
def rIsNotU : R2 := fun x y H Q => (y = .non ∧ Q (.bl (!decide (x = .non))) H) ∨ rNotB x y H Q
def rInU (K : PySem.W.Frag) : R2 := fun x y H Q => rInS x y H Q ∨ rIn K false x y H Q
def rNotInU (K : PySem.W.Frag) : R2 := fun x y H Q => rNotInS x y H Q ∨ rIn K true x y H Q
theorem IxR.or {r r' : R2} (h : IxR X r) (h' : IxR X r') : IxR X (fun x y H Q => r x y H Q ∨ r' x y H Q) := by
  intro value slice pins s σ H x y v u Q I rx ry q hs
  rcases q with q | q
  · exact h value slice pins s σ H x y v u Q I rx ry q hs
  · exact h' value slice pins s σ H x y v u Q I rx ry q hs
def rIxU (K : PySem.W.Frag) : R2 := fun x y H Q => rIxL K x y H Q ∨ rIxT K x y H Q ∨ rIxS x y H Q
theorem ixU : IxR X (rIxU X.K) := IxR.or ix_list (IxR.or ix_tup ix_str)
def rSlU (K : PySem.W.Frag) : V → Option Int → Option Int → Hp → VK → Prop := fun x lo hi H Q => rSlL K x lo hi H Q ∨ rSlS x lo hi H Q
theorem slU : SlR X (rSlU X.K) := SlR.or sl_list sl_str
theorem CallR.or {f : Value} {r r' : List V → Hp → VK → Prop} (h : CallR X f r) (h' : CallR X f r') : CallR X f (fun xs H Q => r xs H Q ∨ r' xs H Q) := by
  intro pins s σ H xs us Q I rs q
  rcases q with q | q
  · exact h pins s σ H xs us Q I rs q
  · exact h' pins s σ H xs us Q I rs q
/-- int(x): an int, a bool, a text -/
def rIntT : List V → Hp → VK → Prop := fun xs H Q => ∃ a n, xs = [.str a] ∧ PySem.intText? a = some n ∧ a.length ≤ 640 ∧ Q (.int n) H
def rIntL (K : PySem.W.Frag) : List V → Hp → VK → Prop := fun xs H Q => ∃ a n, xs = [.str a] ∧ PySem.intText? a = some n ∧ PySem.W.nsIn K cStatics "sys.int_max_str_digits" = some none ∧ ¬ (numSeenOf a).length ≤ 640 ∧ a.length ≤ sizeLine ∧ Q (.int n) H
theorem ns_none {K : PySem.W.Frag} {h : Heap} {a : Addr} {m : Str → Option Value} {x : Str} (kin : K.In h) (g : h.Ns a m) (e : PySem.W.nsIn K a x = some none) : m x = none := by
  obtain ⟨o, es, ep, ho, hd, _, hf⟩ := g
  cases hk : K.lookup a with
  | none => unfold PySem.W.nsIn at e; rw [hk] at e; cases e
  | some o' =>
    have z := kin _ _ hk
    rw [ho] at z
    cases z
    obtain ⟨c, d, dt, sl⟩ := o
    cases hd
    unfold PySem.W.nsIn at e
    rw [hk] at e
    cases he : es.toList.find? (·.key.isStr x) with
    | some y =>
      exfalso
      revert e
      show (match es.toList.find? (·.key.isStr x) with | some e => some (some e.val) | none => if es.toList.any (·.refKey) then none else some none) = some none → False
      rw [he]
      intro e; cases e
    | none =>
      rw [← hf]
      unfold nsFind findBy
      rw [← Array.find?_toList, he]
      rfl
theorem digits_free {K : PySem.W.Frag} {h : Heap} (kin : K.In h) (hl : h.NoLimit) (e : PySem.W.nsIn K cStatics "sys.int_max_str_digits" = some none) : DigitsFree h := by
  obtain ⟨mc, hn, _⟩ := hl
  refine ⟨mc, hn, ?_⟩
  exact ns_none kin hn e
def rIntU (K : PySem.W.Frag) : List V → Hp → VK → Prop := fun xs H Q => rInt1 xs H Q ∨ rIntT xs H Q ∨ rIntL K xs H Q
theorem callIntL : CallR X (.type "int") (rIntL X.K) := by
  intro pins s σ H xs us Q I rs h
  obtain ⟨a, n, rfl, hn, hk, hl, hz, q⟩ := h
  obtain ⟨u, rfl, rx⟩ := vals1 rs
  obtain ⟨t, rfl⟩ := rx
  rcases read4300 a hz with ⟨m, e1, e2, e3⟩ | ⟨e1, _⟩
  · rw [hn] at e1
    cases e1
    exact call_textL (digits_free I.kIn I.nolimit hk) hl e3 e2 ⟨.int n, H, I.tok _, ⟨_, rfl⟩, q⟩
  · rw [hn] at e1; cases e1
theorem callInt : CallR X (.type "int") (rIntU X.K) := CallR.or call_int1 (CallR.or call_int_str callIntL)
def rListU (K : PySem.W.Frag) : List V → Hp → VK → Prop := fun xs H Q => (∃ p ys, xs = [.ref p] ∧ (SqL K H p ys ∨ SqT K H p ys) ∧ ∀ l, H l = none → Q (.ref l) (upd H l (.lst ys))) ∨ rListS xs H Q
theorem callList (hc : X.calm = true) : CallR X (.type "list") (rListU X.K) := CallR.or call_list_of (call_listS hc)
end
end L3
end
section
namespace KX
open PySem PySem.Spec PyProof.Rows L2 LamX L3
section
variable {X : Cx} {K : PySem.W.Frag} (hK : X.K = K := by rfl)
include hK
theorem ixU : IxR X (rIxU K) := by subst hK; exact L3.ixU
theorem slU : SlR X (rSlU K) := by subst hK; exact L3.slU
theorem callInt : CallR X (.type "int") (rIntU K) := by subst hK; exact L3.callInt
theorem callIsi : CallR X (.builtin "isinstance") (rIsiA K) := by subst hK; exact L3.callIsi
theorem callLen : CallR X (.builtin "len") (rLen1 K) := by subst hK; exact call_len
theorem callList (hc : X.calm = true) : CallR X (.type "list") (rListU K) := by subst hK; exact L3.callList hc
theorem eqU (hu : X.A.units + 64 < cLine) : OpR X (compareOp .Eq) (rEqU K) := by subst hK; exact opEq hu
theorem neU (hu : X.A.units + 64 < cLine) : OpR X (compareOp .NotEq) (rNeU K) := by subst hK; exact opNe hu
theorem fld {e : Expr} {f : Str} {pos : Pos} {ta : TE} (ha : PE X e ta) (hb : attributeBase e f X.env (eval e X.env) = eval e X.env) : PE X (.Attribute e f pos) (tFld K ta f) := by subst hK; exact pe_fld ha hb
end
end KX
namespace L3
open PySem PySem.Spec PyProof.Rows L2 LamX
section
variable {σ : L2.St} {H : Hp} {D : Ends} {Q : VK} {v x y : V} {K : PySem.W.Frag} {te ta tb : TE}
theorem iteNF {A B : Prop} (h : A) : if (!false) = true then A else B := iteT h
theorem iteNT {A B : Prop} (h : B) : if (!true) = true then A else B := iteF h
theorem s_pair {i j : Nat} {tt : TA} (h : tt σ H fun vs H1 => ∃ v w, vs = [v, w] ∧ D.nx ((σ.set i (some v)).set j (some w)) H1) : tPar i j tt D σ H := h
theorem s_pair2 {R : V → V → Prop} (h : R x y) : ∃ v w, [x, y] = [v, w] ∧ R v w := ⟨x, y, rfl, h⟩
theorem s_fld {tv : TE} {f : Str} (h : tv σ H fun y H1 => ta σ H1 fun x H2 => ∃ a C dx fs, x = .ref a ∧ H2 a = some (.ins C dx fs) ∧ Cls K C ∧ NoAttr K C f ∧ fs.length < 1000 ∧ D.nx σ (upd H2 a (.ins C dx (putF f y fs)))) : sFld K ta tv f D σ H := h
theorem s_make {C : Addr} {sp : Sp} {dvs : List V} {E : XK} {tt : TA} (h : tt σ H fun vs H1 => ∀ p dx, H1 p = none → H1 dx = none → dx ≠ p → sp (.ref p :: (vs ++ dvs)) (upd (upd H1 dx (.own p)) p (.ins C dx [])) (fun v H2 => v = .non ∧ ap Q (.ref p) H2) E) : tMake C sp dvs E tt σ H Q := h
theorem s_dnew (h : ∀ p H2, H p = none → Ex H H2 → H2 p = some (.dK []) → Q (.ref p) H2) : tDNewK σ H Q := fun p hp => h p _ hp (ex_new hp) upd_same
theorem s_disp1 {tk tv : TE} {k : Key} {v' : V} (hk : ∀ H' (R : VK), R (kV k) H' → tk σ H' R) (hv : ∀ H' (R : VK), R v' H' → tv σ H' R) (h : ∀ p H2, H p = none → Ex H H2 → H2 p = some (.dK [(k, v')]) → Q (.ref p) H2) : tDisp [(tk, tv)] σ H Q := fun p hp => by
  refine hk _ _ (hv _ _ ?_)
  refine ⟨upd_same, [(k, v')], rfl, (by show 1 ≤ 15; decide), ?_⟩
  refine h p _ hp (fun b o e => ?_) upd_same
  rw [upd_ne (ne_of_none e hp), upd_ne (ne_of_none e hp)]; exact e
theorem s_pow {g : Int → Int → V} {i j : Int} (c : CPow i j) (h : Q (g i j) H) : rI CPow g (.int i) (.int j) H Q := ⟨i, j, rfl, rfl, c, h⟩
theorem s_m1 {r : V → List V → Hp → VK → Prop} (h : ta σ H fun x H1 => (∃ a, x = .str a) ∧ tb σ H1 fun y H2 => r x [y] H2 Q) : tM1 r ta tb σ H Q := h
theorem s_isstr {z : Str} {R : Prop} (h : R) : (∃ a, V.str z = .str a) ∧ R := ⟨⟨z, rfl⟩, h⟩
theorem s_addI {i j : Int} (h : Q (.int (i + j)) H) : rAddU (.int i) (.int j) H Q := .inl ⟨i, j, rfl, rfl, h⟩
theorem s_mulI {i j : Int} (c : IntMulOk i j) (h : Q (.int (i * j)) H) : rMulU (.int i) (.int j) H Q := .inl ⟨i, j, rfl, rfl, c, h⟩
theorem s_isN (h : Q (.bl (decide (x = .non))) H) : rIsU x .non H Q := .inl ⟨rfl, h⟩
theorem s_isB {a b : Bool} (h : Q (.bl (decide (a = b))) H) : rIsU (.bl a) (.bl b) H Q := .inr ⟨a, b, rfl, rfl, h⟩
theorem s_nisN (h : Q (.bl (!decide (x = .non))) H) : rIsNotU x .non H Q := .inl ⟨rfl, h⟩
theorem s_nisB {a b : Bool} (h : Q (.bl (!decide (a = b))) H) : rIsNotU (.bl a) (.bl b) H Q := .inr ⟨a, b, rfl, rfl, h⟩
theorem s_inS {c : Nat} {z : Str} (h : Q (.bl (decide (c ∈ z.cps.toList))) H) : rInU K (.str ⟨#[c]⟩) (.str z) H Q := .inl ⟨c, z, rfl, rfl, h⟩
theorem s_ninS {c : Nat} {z : Str} (h : Q (.bl (!decide (c ∈ z.cps.toList))) H) : rNotInU K (.str ⟨#[c]⟩) (.str z) H Q := .inl ⟨c, z, rfl, rfl, h⟩
theorem s_iL {p : Addr} {xs : List V} {i : Int} (hp : H p = some (.lst xs)) (e : atI xs i = some v) (h : Q v H) : rIxU K (.ref p) (.int i) H Q := .inl ⟨p, xs, i, v, rfl, rfl, .inl (.inl hp), e, h⟩
theorem s_iT {p : Addr} {xs : List V} {i : Int} (hp : H p = some (.tup xs)) (e : atI xs i = some v) (h : Q v H) : rIxU K (.ref p) (.int i) H Q := .inr (.inl ⟨p, xs, i, v, rfl, rfl, .inl (.inl hp), e, h⟩)
theorem s_slice {r : V → Option Int → Option Int → Hp → VK → Prop} {tl th : TO} (h : te σ H fun x H1 => tl σ H1 fun l H2 => th σ H2 fun u H3 => r x l u H3 Q) : tSl r te tl th σ H Q := h
theorem s_part {R : Option Int → Hp → Prop} (h : te σ H fun x H1 => ∃ i, x = .int i ∧ R (some i) H1) : tPart te σ H R := h
theorem s_partI {R : Int → Prop} {i : Int} (h : R i) : ∃ j, V.int i = .int j ∧ R j := ⟨i, rfl, h⟩
theorem s_nopart {R : Option Int → Hp → Prop} (h : R none H) : tNoPart σ H R := h
theorem s_slL {p : Addr} {xs : List V} {lo hi : Option Int} (hs : SqL K H p xs) (h : ∀ q H2, H q = none → Ex H H2 → H2 q = some (.lst (cutV xs lo hi)) → Q (.ref q) H2) : rSlU K (.ref p) lo hi H Q :=
  .inl ⟨p, xs, rfl, hs, fun q hq => h q _ hq (ex_new hq) upd_same⟩
theorem s_cI {i : Int} (h : Q (.int i) H) : rIntU K [.int i] H Q := .inl (.inl ⟨i, rfl, h⟩)
theorem s_cB {b : Bool} (h : Q (.int (if b then 1 else 0)) H) : rIntU K [.bl b] H Q := .inl (.inr ⟨b, rfl, h⟩)
theorem s_listL {p : Addr} {xs : List V} (hs : SqL K H p xs) (h : ∀ q H2, H q = none → Ex H H2 → H2 q = some (.lst xs) → Q (.ref q) H2) : rListU K [.ref p] H Q :=
  .inl ⟨p, xs, rfl, .inl hs, fun q hq => h q _ hq (ex_new hq) upd_same⟩
theorem s_isiC {C : Addr} {t : Value} {b : Bool} (ty : TyA K H x t) (e : PySem.W.kitOne K t (.ref C) = some b) (h : Q (.bl b) H) : rIsiA K [x, .ref C] H Q := ⟨x, .ref C, t, .ref C, b, rfl, .own C, ty, e, h⟩
theorem s_chain {r r' : R2} {tc : TE} (h : ta σ H fun x H1 => tb σ H1 fun y H2 => r x y H2 fun z H3 => ∃ k, z = .bl k ∧ (if k = true then tc σ H3 fun w' H4 => r' y w' H4 Q else Q (.bl false) H3)) : tChain r r' ta tb tc σ H Q := h
theorem s_bm {T : String} {r : V → List V → Hp → VK → Prop} {t : TA} (h : te σ H fun x H1 => tyV K T x H1 ∧ t σ H1 fun xs H2 => r x xs H2 Q) : tBM K T r te t σ H Q := h
theorem s_tyL {p : Addr} {xs : List V} {R : Prop} (hp : H p = some (.lst xs)) (h : R) : tyV K "list" (.ref p) H ∧ R := ⟨.inl ⟨rfl, _, .inl (.inl hp)⟩, h⟩
theorem s_app {p : Addr} {xs : List V} (hp : H p = some (.lst xs)) (hz : xs.length < sizeLine) (h : Q .non (upd H p (.lst (xs ++ [y])))) : rAppend (.ref p) [y] H Q := ⟨p, xs, y, rfl, rfl, hp, hz, h⟩
def LC (J : It) (g : TG) (tt : TT) (te : TE) (vs : List Nat) (σ : L2.St) (H1 : Hp) (Q : VK) : Prop := ∀ D, H1 D = none → ∃ W : Nat → Nat → Hp → Prop, (∃ m, W 0 m (upd H1 D (.lst []))) ∧ ∀ i m H, W i m H →
  (J.stop i H ∧ Q (.ref D) H) ∨ (J.go i H ∧ ∃ Nx : Hp → Prop, (∀ H', Nx H' → ∃ m', m' < m ∧ W (i + 1) m' H') ∧ ∀ x H', J.yld i H x H' → g x (wipe σ vs) H' fun σ2 H2 => wipe σ2 vs = wipe σ vs ∧ tt σ2 H2 fun b H3 =>
    if b = true then te σ2 H3 fun y H4 => ∃ acc, H4 D = some (.lst acc) ∧ acc.length < sizeLine ∧ Nx (upd H4 D (.lst (acc ++ [y]))) else Nx H3)
theorem s_lcS {g : TG} {tt : TT} {vs : List Nat} (h : ta σ H fun v H1 => ∃ z, v = .str z ∧ LC (Its z) g tt te vs σ H1 Q) : tLc (iStr ta) g tt te vs σ H Q := h
theorem s_lcR {g : TG} {tt : TT} {vs : List Nat} {tr : TA} (h : tr σ H fun ws H1 => ∃ j : Int, ws = [.int j] ∧ -(2 ^ 62) ≤ j ∧ j < 2 ^ 62 ∧ LC (Itr 0 j.toNat) g tt te vs σ H1 Q) : tLc (iRng1 tr) g tt te vs σ H Q := h
theorem s_strE {R : Str → Prop} {z : Str} (h : R z) : ∃ y, V.str z = .str y ∧ R y := ⟨z, rfl, h⟩
end
end L3
end
section
local macro_rules | `(tactic| tm_at "s1") => `(tactic| first
  | with_reducible first
    | refine L3.s_seq ?_ | refine L3.s_asg ?_ | refine L3.s_op ?_ | refine L3.s_c ?_ | refine L3.s_cb ?_ | refine L3.s_cons ?_ | refine L3.s_nil ?_ | refine L3.s_test ?_ | refine L3.s_bl ?_
    | refine L3.s_I0 ?_ | refine L3.s_and ?_ | refine L3.s_or ?_ | refine L3.s_not ?_ | refine L3.s_if ?_ | refine L3.s_next ?_ | refine L3.s_ret ?_ | refine L3.s_retN ?_ | refine L3.s_asgS ?_ | refine L3.s_drop ?_
    | refine L3.s_un ?_ | refine L3.s_U ?_ | refine L3.s_int ?_ | refine L3.s_intB ?_ | refine L3.s_abs ?_ | refine L3.s_andV ?_ | refine L3.s_orV ?_ | refine L3.s_notV ?_ | refine L3.s_ifE ?_ | refine L3.s_call ?_ | refine L3.s_lst ?_ | refine L3.s_tup ?_ | refine L3.s_tB ?_
    | refine L3.s_addI ?_ | refine L3.s_inS ?_ | refine L3.s_ninS ?_ | refine L3.s_slice ?_ | refine L3.s_part ?_ | refine L3.s_partI ?_ | refine L3.s_nopart ?_ | refine L3.s_cI ?_ | refine L3.s_cB ?_ | refine L3.s_chain ?_ | refine L3.s_bm ?_ | refine L3.s_lcS ?_ | refine L3.s_lcR ?_ | refine L3.s_strE ?_
    | refine L2.iteT ?_ | refine L2.iteF ?_ | refine L3.iteNF ?_ | refine L3.iteNT ?_
    | refine L3.s_eqI ?_ | refine L3.s_neI ?_ | refine L3.s_eqS ?_ | refine L3.s_neS ?_
    | refine L3.s_pair ?_ | refine L3.s_pair2 ?_ | refine L3.s_fld ?_ | refine L3.s_make ?_ | refine L3.s_m1 ?_ | refine L3.s_isstr ?_
    | refine L3.s_isN ?_ | refine L3.s_isB ?_ | refine L3.s_nisN ?_ | refine L3.s_nisB ?_
  | ((with_reducible refine' L3.s_var ?e ?_); (case e => rfl))
  | ((with_reducible refine' L3.s_pow ?c ?_); (case c => exact ⟨by decide, by decide, by decide⟩)))
local macro_rules | `(tactic| tm_at "s") => `(tactic| repeat tm_at "s1")
namespace L3
open PySem PySem.Spec PyProof.Rows L2
theorem mulL {i j : Int} (h : -(2 ^ 64) < i ∧ i < 2 ^ 64) : IntMulOk i j := CMul.ok (.inl h)
def spDraw : Sp := fun vs H Q _ => ∃ a n many, vs = [.ref a, .int many] ∧ 0 < many ∧ many.natAbs < 2 ^ 8000 ∧ Pen H a n ∧ n < lim ∧
  ∀ (d : Int) (H' : Hp), 0 ≤ d → d < many → Pen H' a (n + 1) → (∀ b o, b ≠ a → H b = some o → H' b = some o) → Q (.int d) H'
abbrev rSub : R2 := rI0 fun i j => V.int (i - j)
abbrev rMod : R2 := rI (fun _ j => 0 < j) fun i j => V.int (i % j)
abbrev rDivW : R2 := rI CDivW fun i j => V.int (i / j)
abbrev rPow : R2 := rI CPow fun i j => V.int (i ^ j.toNat)
abbrev t1 (r : List V → Hp → VK → Prop) (te : TE) : TE := tCB r (tCons te tNil)
abbrev tI (i : Int) : TE := tC (.int i)
def tDraw (K : PySem.W.Frag) (c1 c2 c3 c4 c5 c6 c7 c8 c9 c10 : Int) : TS :=
  tSeq (tIfS (tTest (tOp (rI0 fun i j => V.bl (decide (j < i))) (tOp (rIxU K) (tVar 0) (tI 2)) (tI 0)))
    (tSeq (tAsg (tOp rMod (t1 (rIntU K) (tOp (rIxU K) (tVar 0) (tI 2))) (tVar 1)) (gName 2))
    (tSeq (tAsg (tOp rDivW (t1 (rIntU K) (tOp (rIxU K) (tVar 0) (tI 2))) (tVar 1)) (gSub (tVar 0) (tI 2) rSetL))
      (tRet (tVar 2)))) tNext)
  (tSeq (tAsg (tOp (rIxU K) (tVar 0) (tI 1)) (gName 3))
  (tSeq (tAsg (tOp rAddU (tVar 3) (tI 1)) (gSub (tVar 0) (tI 1) rSetL))
  (tSeq (tAsg (tOp rAddU (tOp rMulU (tI c1) (tVar 3)) (tI c2)) (gName 4))
  (Evl.tCut (tIfS (tTest (tOp (rNeU K) (tOp (rIxU K) (tVar 0) (tI 0)) (tLst tNil)))
    (tAsg (tOp (rIxU K) (tOp (rIxU K) (tVar 0) (tI 0)) (tOp rMod (t1 (rIntU K) (tVar 3)) (t1 (rLen1 K) (tOp (rIxU K) (tVar 0) (tI 0))))) (gName 4)) tNext)
  (tSeq (tIfS (tAnd (tTest (tOp (rI0 fun i j => V.bl (decide (i < j))) (tVar 3) (t1 (rLen1 K) (tOp (rIxU K) (tVar 0) (tI 0))))) (tTest (tOp (rI0 fun i j => V.bl (decide (j ≤ i))) (t1 rAbs1 (tVar 4)) (tOp rPow (tI 10) (tI 18)))))
    (tSeq (tAsg (tOp rAddU (tOp rMulU (tI 2) (tOp rSub (t1 rAbs1 (tVar 4)) (tOp rPow (tI 10) (tI 18)))) (t1 (rIntU K) (tOp (rI0 fun i j => V.bl (decide (i < j))) (tVar 4) (tI 0)))) (gName 5))
    (tSeq (tAsg (tOp rDivW (t1 (rIntU K) (tVar 5)) (tVar 1)) (gSub (tVar 0) (tI 2) rSetL))
      (tRet (tOp rMod (t1 (rIntU K) (tVar 5)) (tVar 1))))) tNext)
  (tSeq (tAsg (tOp rMod (t1 (rIntU K) (tOp rPow (tOp rAddU (tOp rAddU (tOp rMod (t1 (rIntU K) (tVar 4)) (tI c3)) (tOp rMulU (tI c4) (tVar 3))) (tI c5)) (tI 5))) (tI c6)) (gName 6))
  (tSeq (tAsg (tOp rMod (t1 (rIntU K) (tOp rPow (tOp rAddU (tOp rAddU (tOp rMulU (tVar 6) (tOp rAddU (tOp rMulU (tI 2) (tVar 3)) (tI c7))) (tOp rMulU (tOp rMulU (tI c8) (tVar 3)) (tVar 3))) (tI c9)) (tI 3))) (tI c10)) (gName 6))
    (tRet (tOp rMod (t1 (rIntU K) (tOp rDivW (tVar 6) (tI 32))) (tVar 1))))))))))
structure DrawC (c1 c2 c3 c4 c5 c6 c7 c8 c9 c10 : Int) : Prop where
  h1 : 0 ≤ c1 ∧ c1 < 1000000
  h3 : 0 < c3 ∧ c3 < 4294967296
  h4 : 0 ≤ c4 ∧ c4 < 1000000
  h5 : 0 ≤ c5 ∧ c5 < 1000000
  h6 : 0 < c6 ∧ c6 < 4294967296
  h7 : 0 ≤ c7 ∧ c7 < 1000000
  h8 : 0 ≤ c8 ∧ c8 < 1000000
  h9 : 0 ≤ c9 ∧ c9 < 1000000
  h10 : 0 < c10 ∧ c10 < 4294967296
theorem shInts (ns : List Int) : SeqAt.shaped (.list (ns.map PyData.int)) = true := by
  have h1 : ∀ l : List Int, PyData.canLayAll0 (l.map PyData.int) = true := by
    intro l
    induction l with
    | nil => rfl
    | cons x r ih => rw [List.map_cons]; unfold PyData.canLayAll0; rw [ih]; rfl
  have h2 : ∀ l : List Int, PyData.depthAll (l.map PyData.int) = 0 := by
    intro l
    induction l with
    | nil => rfl
    | cons x r ih => rw [List.map_cons]; unfold PyData.depthAll; rw [ih]; rfl
  unfold SeqAt.shaped PyData.canLay0 PyData.depth
  rw [h1, h2]; decide
theorem atI_int {α : Type} {xs : List α} {i : Int} (h0 : 0 ≤ i) (h : i < xs.length) : atI xs i = xs[i.toNat]? := by
  unfold atI ixN
  rw [if_pos h0, if_pos h]
  rfl
theorem natAbs_lt {x : Int} {k : Nat} (h0 : 0 ≤ x) (h : x < k) : x.natAbs < k := by omega
theorem rd_draw {K : PySem.W.Frag} {c1 c2 c3 c4 c5 c6 c7 c8 c9 c10 : Int} (C : DrawC c1 c2 c3 c4 c5 c6 c7 c8 c9 c10) {a c : Addr} {n : Nat} {many : Int} {ns : List Int} {H : Hp} {Q : VK} {Nn : L2.St → Hp → Prop} {B1 B2 : L2.St → Hp → Prop}
    (hm : 0 < many) (hm2 : many.natAbs < 2 ^ 8000) (ha : H a = some (PenO a c n)) (hc : H c = some (.lst (ns.map V.int))) (hn : n < lim) (hl : ns.length ≤ 63)
    (k : ∀ (d : Int) (H' : Hp), 0 ≤ d → d < many → (H' a = some (PenO a c (n + 1)) ∧ H' c = some (.lst (ns.map V.int))) → (∀ b o, b ≠ a → H b = some o → H' b = some o) → Q (.int d) H') :
    tPen a c n (n + 1) (tDraw K c1 c2 c3 c4 c5 c6 c7 c8 c9 c10) { nx := Nn, rt := Q, bk := B1, ct := B2 } [some (.ref a), some (.int many), none, none, none, none, none] H := by
  refine ⟨ha, fun spot rest h0 h1 => ?_⟩
  have nca : c ≠ a := fun z => by rw [z, ha] at hc; cases hc
  have fin : ∀ (d spot' rest' : Int) (H1 : Hp), 0 ≤ d → d < many → 0 ≤ spot' → spot' ≤ n + 1 → H1 a = some (.lst [.ref c, .int spot', .int rest']) → (∀ b o, b ≠ a → H b = some o → H1 b = some o) → penBack a c (n + 1) (Q (.int d)) H1 := by
    intro d sp re H1 d0 d1 s0 s1 e q
    exact ⟨sp, re, e, s0, by omega, k d _ d0 d1 ⟨upd_same, by rw [upd_ne nca]; exact q c _ nca hc⟩ (fun b o hb => by rw [upd_ne hb]; exact q b o hb)⟩
  unfold tDraw
  tm_at "s"
  refine s_iL upd_same rfl ?_
  tm_at "s"
  refine iteD (fun hpos => ?_) (fun _ => ?_)
  · tm_at "s"
    refine s_iL upd_same rfl ?_
    tm_at "s"
    refine s_I hm ?_
    tm_at "s"
    refine s_iL upd_same rfl ?_
    tm_at "s"
    refine s_I (wide_div hm hm2 (by decide) (by decide)) ?_
    tm_at "s"
    refine s_setL upd_same rfl ?_
    tm_at "s"
    exact fin _ spot _ _ (Int.emod_nonneg _ (by omega)) (Int.emod_lt_of_pos _ hm) h0 (by omega) upd_same (fun b o hb hh => by rw [upd_ne hb, upd_ne hb]; exact hh)
  · tm_at "s"
    refine s_iL upd_same rfl ?_
    tm_at "s"
    refine s_setL upd_same rfl ?_
    have hs : (spot : Int) ≤ 1000000 := by unfold lim at hn; omega
    tm_at "s"
    refine s_mulI (mulL ⟨by have := C.h1; omega, by have := C.h1; omega⟩) ?_
    tm_at "s"
    refine s_cut (M := fun σ' H' => ∃ cell : Int, σ' = [some (.ref a), some (.int many), none, some (.int spot), some (.int cell), none, none] ∧ H' a = some (.lst [.ref c, .int (spot + 1), .int rest]) ∧ ∀ b o, b ≠ a → H b = some o → H' b = some o) ?_ ?_
    · tm_at "s"
      refine s_iL upd_same rfl ?_
      tm_at "s"
      refine s_new (by decide) fun p H2 hp e2 h2 => ?_
      have a2 : H2 a = some (.lst [.ref c, .int (spot + 1), .int rest]) := e2 _ _ upd_same
      have k2 : ∀ b o, b ≠ a → H b = some o → H2 b = some o := fun b o hb hh => e2 _ _ (by rw [upd_ne hb, upd_ne hb]; exact hh)
      have c2 := k2 c _ nca hc
      clear hp e2
      refine s_neD' (.lst (.inl (.inl c2)) (dpInts ns)) (.lst (.inl (.inl h2)) .nil) (shInts ns) rfl ?_
      tm_at "s"
      refine iteB (fun hne => ?_) (fun _ => ?_)
      · tm_at "s"
        refine s_iL a2 rfl ?_
        tm_at "s"
        refine s_iL a2 rfl ?_
        tm_at "s"
        refine s_lenL c2 ?_
        rw [List.length_map]
        have hns : 0 < ns.length := by
          cases ns with
          | nil => exact absurd hne (by decide)
          | cons x r => exact Nat.succ_pos _
        refine s_I (by omega) ?_
        have hx : spot % (ns.length : Int) < ns.length := Int.emod_lt_of_pos _ (by omega)
        have hx0 : 0 ≤ spot % (ns.length : Int) := Int.emod_nonneg _ (by omega)
        have hxn : (spot % (ns.length : Int)).toNat < ns.length := by omega
        refine s_iL c2 (v := .int (ns[(spot % (ns.length : Int)).toNat]'hxn)) ?_ ?_
        · rw [atI_int hx0 (by rw [List.length_map]; exact hx), List.getElem?_map, List.getElem?_eq_getElem hxn]
          rfl
        · exact ⟨_, rfl, a2, k2⟩
      · tm_at "s"
        exact ⟨_, rfl, a2, k2⟩
    · rintro σ' H2 ⟨cell, rfl, a2, k2⟩
      have c2 := k2 c _ nca hc
      have main : (tSeq (tAsg (tOp rMod (t1 (rIntU K) (tOp rPow (tOp rAddU (tOp rAddU (tOp rMod (t1 (rIntU K) (tVar 4)) (tI c3)) (tOp rMulU (tI c4) (tVar 3))) (tI c5)) (tI 5))) (tI c6)) (gName 6))
          (tSeq (tAsg (tOp rMod (t1 (rIntU K) (tOp rPow (tOp rAddU (tOp rAddU (tOp rMulU (tVar 6) (tOp rAddU (tOp rMulU (tI 2) (tVar 3)) (tI c7))) (tOp rMulU (tOp rMulU (tI c8) (tVar 3)) (tVar 3))) (tI c9)) (tI 3))) (tI c10)) (gName 6))
            (tRet (tOp rMod (t1 (rIntU K) (tOp rDivW (tVar 6) (tI 32))) (tVar 1)))))
          { nx := fun σ' => penBack a c (n + 1) (Nn σ'), rt := fun v => penBack a c (n + 1) (Q v), bk := fun σ' => penBack a c (n + 1) (B1 σ'), ct := fun σ' => penBack a c (n + 1) (B2 σ') }
          [some (.ref a), some (.int many), none, some (.int spot), some (.int cell), none, none] H2 := by
        have hc3 := C.h3; have hc4 := C.h4; have hc5 := C.h5; have hc6 := C.h6; have hc7 := C.h7; have hc8 := C.h8; have hc9 := C.h9; have hc10 := C.h10
        tm_at "s"
        refine s_I hc3.1 ?_
        tm_at "s"
        refine s_mulI (mulL ⟨by omega, by omega⟩) ?_
        tm_at "s"
        have e1 : 0 ≤ cell % c3 := Int.emod_nonneg _ (by omega)
        have e2 : cell % c3 < c3 := Int.emod_lt_of_pos _ hc3.1
        have e3 : 0 ≤ c4 * spot := Int.mul_nonneg hc4.1 h0
        have e4 : c4 * spot ≤ 1000000 * 1000000 := Int.mul_le_mul (by omega) hs h0 (by decide)
        refine s_pow ⟨by decide, by decide, ?_⟩ ?_
        · exact natAbs_lt (by omega) (by show _ < ((2 ^ 64 : Nat) : Int); omega)
        tm_at "s"
        refine s_I hc6.1 ?_
        generalize hg : ((cell % c3 + c4 * spot + c5) ^ (Int.toNat 5)) % c6 = g
        have g0 : 0 ≤ g := by rw [← hg]; exact Int.emod_nonneg _ (by omega)
        have g1 : g < c6 := by rw [← hg]; exact Int.emod_lt_of_pos _ hc6.1
        tm_at "s"
        refine s_mulI (mulL (by decide)) ?_
        tm_at "s"
        refine s_mulI (mulL ⟨by omega, by omega⟩) ?_
        tm_at "s"
        refine s_mulI (mulL ⟨by omega, by omega⟩) ?_
        have f3 : 0 ≤ c8 * spot := Int.mul_nonneg hc8.1 h0
        have f4 : c8 * spot ≤ 1000000 * 1000000 := Int.mul_le_mul (by omega) hs h0 (by decide)
        tm_at "s"
        refine s_mulI (mulL ⟨by omega, by omega⟩) ?_
        have f5 : 0 ≤ c8 * spot * spot := Int.mul_nonneg f3 h0
        have f6 : c8 * spot * spot ≤ 1000000 * 1000000 * 1000000 := Int.mul_le_mul f4 hs h0 (by decide)
        have f7 : 0 ≤ g * (2 * spot + c7) := Int.mul_nonneg g0 (by omega)
        have f8 : g * (2 * spot + c7) ≤ 4294967296 * 3000000 := Int.mul_le_mul (by omega) (by omega) (by omega) (by decide)
        tm_at "s"
        refine s_pow ⟨by decide, by decide, ?_⟩ ?_
        · exact natAbs_lt (by omega) (by show _ < ((2 ^ 64 : Nat) : Int); omega)
        tm_at "s"
        refine s_I hc10.1 ?_
        tm_at "s"
        refine s_I (wide_div (b := 64) (by decide) (by decide) (by decide) (by decide)) ?_
        tm_at "s"
        refine s_I hm ?_
        exact fin _ (spot + 1) rest _ (Int.emod_nonneg _ (by omega)) (Int.emod_lt_of_pos _ hm) (by omega) (by omega) a2 k2
      tm_at "s"
      refine s_iL a2 rfl ?_
      tm_at "s"
      refine s_lenL c2 ?_
      tm_at "s"
      refine iteD (fun _ => ?_) (fun _ => ?_)
      · tm_at "s"
        refine iteD (fun hbig => ?_) (fun _ => ?_)
        · tm_at "s"
          refine s_mulI (mulL (by decide)) ?_
          tm_at "s"
          refine s_I (wide_div hm hm2 (by decide) (by decide)) ?_
          tm_at "s"
          refine s_setL a2 rfl ?_
          tm_at "s"
          refine s_I hm ?_
          exact fin _ (spot + 1) _ _ (Int.emod_nonneg _ (by omega)) (Int.emod_lt_of_pos _ hm) (by omega) (by omega) upd_same (fun b o hb hh => by rw [upd_ne hb]; exact k2 b o hb hh)
        · exact main
      · refine iteF ?_
        exact main
theorem rd_drawS {K : PySem.W.Frag} {c1 c2 c3 c4 c5 c6 c7 c8 c9 c10 : Int} (C : DrawC c1 c2 c3 c4 c5 c6 c7 c8 c9 c10) {a c : Addr} {n : Nat} {many : Int} {ns : List Int} {H : Hp} {Q : VK} {Nn : L2.St → Hp → Prop} {B1 B2 : L2.St → Hp → Prop}
    (hm : 0 < many) (hm2 : many.natAbs < 2 ^ 8000) (ha : H a = some (PenO a c n)) (hc : H c = some (ScO c ns)) (hn : n < lim) (hl : ns.length ≤ 63 ∧ c ≠ a)
    (k : ∀ (d : Int) (H' : Hp), 0 ≤ d → d < many → Pen H' a (n + 1) → (∀ b o, b ≠ a → H b = some o → H' b = some o) → Q (.int d) H') :
    tSc c ns (tPen a c n (n + 1) (tDraw K c1 c2 c3 c4 c5 c6 c7 c8 c9 c10)) { nx := Nn, rt := Q, bk := B1, ct := B2 } [some (.ref a), some (.int many), none, none, none, none, none] H := by
  refine ⟨hc, rd_draw C hm hm2 (by rw [upd_ne (Ne.symm hl.2)]; exact ha) upd_same hn hl.1 fun d H' d0 d1 ⟨p1, p2⟩ q => ?_⟩
  refine ⟨p2, k d _ d0 d1 ⟨c, ns, by rw [upd_ne (Ne.symm hl.2)]; exact p1, upd_same, hl⟩ fun b o hb ho => ?_⟩
  by_cases hbc : b = c
  · subst hbc
    rw [upd_same, ← hc]; exact ho
  · rw [upd_ne hbc]
    exact q b o hb (by rw [upd_ne hbc]; exact ho)
end L3
end
section
namespace L3
open PySem PySem.Spec PyProof.Rows L2 PySem.NumText
theorem len_codes (z : Str) : z.cps.toList.length = z.length := Array.length_toList
end L3
end
section
namespace L3
open PySem PySem.Spec PyProof.Rows L2 LamX
theorem pen_heap (a c : Addr) (n : Nat) : ∃ h : Heap, (∃ (spot rest : Int) (t u : Tok) (k : Nat), h.get? a = some { cls := .type "list", data := .seq #[.ref c, .int spot t, .int rest u] k } ∧ 0 ≤ spot ∧ spot ≤ n) ∧
    ∀ b o, h.get? b = some o → o.cls = .type "list" ∧ ∀ vs, o.data ≠ .fields vs := by
  let ob : Obj := { cls := .type "list", data := .seq #[.ref c, .int 0 0, .int 0 0] 0 }
  refine ⟨{ objs := Array.replicate (a + 1) ob }, ⟨0, 0, 0, 0, 0, ?_, by decide, by omega⟩, fun b o e => ?_⟩
  · unfold Heap.get?
    have : (Array.replicate (a + 1) ob)[a]? = some ob := by simp
    show (match (Array.replicate (a + 1) ob)[a]? with | some ⟨_, _, .freed, _⟩ => none | o => o) = _
    rw [this]
  · unfold Heap.get? at e
    have q : (Array.replicate (a + 1) ob)[b]? = none ∨ (Array.replicate (a + 1) ob)[b]? = some ob := by
      by_cases h : b < a + 1
      · right; simp [h]
      · left; exact Array.getElem?_eq_none (by rw [Array.size_replicate]; exact Nat.le_of_not_lt h)
    change (match (Array.replicate (a + 1) ob)[b]? with | some ⟨_, _, .freed, _⟩ => none | o => o) = some o at e
    rcases q with q | q
    · rw [q] at e; cases e
    · rw [q] at e; cases e
      exact ⟨rfl, fun vs z => nomatch z⟩
theorem codeO_pen {k a c : Addr} {n : Nat} {q : Str} : CodeO k q ≠ PenO a c n := fun e => by
  unfold CodeO PenO at e
  injection e with e
  obtain ⟨h, h1, h2⟩ := pen_heap a c n
  rw [← congrFun e h] at h1
  obtain ⟨o, vs, _, g1, g2, _⟩ := h1
  exact (h2 _ _ g1).2 vs g2
/-- the pen stands, so do the tables -/
structure Wo (T : List (Addr × Str)) (H : Hp) (a : Addr) (n : Nat) : Prop where
  pen : Pen H a n
  tabs : Tabs T H
/-- an object that is told otherwise than a pen does not lie at the pen's place -/
theorem Pen.ne {H : Hp} {a : Addr} {n : Nat} (p : Pen H a n) {b : Addr} {o : HO} (h : H b = some o) (d : ∀ c n, o ≠ PenO a c n) : b ≠ a := fun z => by
  obtain ⟨c, ns, ha, _⟩ := p
  rw [z, ha] at h
  exact d c n (Option.some.inj h).symm
theorem Wo.keep {T : List (Addr × Str)} {H H' : Hp} {a : Addr} {n m : Nat} (w : Wo T H a n) (p : Pen H' a m) (k : ∀ b o, b ≠ a → H b = some o → H' b = some o) : Wo T H' a m := by
  refine ⟨p, fun t ht => ?_⟩
  obtain ⟨ps, h1, h2, h3⟩ := w.tabs t ht
  refine ⟨ps, k _ _ (w.pen.ne h1 fun c n z => by unfold PenO at z; cases z) h1, h2, fun pos cv hc => ?_⟩
  obtain ⟨c, e1, e2⟩ := h3 pos cv hc
  exact ⟨c, e1, k _ _ (w.pen.ne e2 fun _ _ => codeO_pen) e2⟩
theorem Wo.ex {T : List (Addr × Str)} {H H' : Hp} {a : Addr} {n : Nat} (w : Wo T H a n) (k : Ex H H') : Wo T H' a n := by
  obtain ⟨c, ns, h1, h2, h3⟩ := w.pen
  exact ⟨⟨c, ns, k _ _ h1, k _ _ h2, h3⟩, w.tabs.ext k⟩
theorem Xt.trans {a : Addr} {H H1 H2 : Hp} (x : Xt a H H1) (y : Xt a H1 H2) : Xt a H H2 := fun b o h1 h2 h => y b o h1 h2 (x b o h1 h2 h)
theorem Xt.of {a : Addr} {H H' : Hp} (k : ∀ b o, b ≠ a → H b = some o → H' b = some o) : Xt a H H' := fun b o h _ e => k b o h e
def tPenNew (t : TS) : TS := fun D σ H => t { D with rt := fun v H' => ∃ p c rest ns, v = .ref p ∧ H' p = some (.lst [.ref c, .int 0, .int rest]) ∧ H' c = some (.lst ((ns : List Int).map V.int)) ∧ c ≠ p ∧ D.rt v (upd (upd H' p (PenO p c 0)) c (ScO c ns)) } σ H
theorem pss_penNew {X : Cx} {sts : List Stmt} {t : TS} (h : PSs X sts t) : PSs X sts (tPenNew t) := by
  refine ⟨fun pins s σ H D I hw => thn (h.run pins s σ H _ I hw) fun f s' q => ?_⟩
  match f, q with
  | .next, q => exact q
  | .brk, q => exact q
  | .cont, q => exact q
  | .ret u, q =>
    obtain ⟨v, σ', H', I', r, p, c, rest, ns, e, hp, hc, hn, z⟩ := q
    exact ⟨v, σ', _, Inv.scClose (Inv.penClose I' hp (Int.le_refl 0) (Int.le_refl 0)) (by rw [upd_ne hn]; exact hc), r, z⟩
def spPen (K : PySem.W.Frag) : Sp := fun vs H Q _ => ∃ a ns, vs = [.ref a] ∧ SqL K H a (ns.map V.int) ∧ (ns : List Int).length ≤ 63 ∧ ∀ p H', H p = none → Ex H H' → Pen H' p 0 → Q (.ref p) H'
def spPick : Sp := fun vs H Q _ => ∃ a l n xs, vs = [.ref a, .ref l] ∧ H l = some (.lst xs) ∧ xs ≠ [] ∧ xs.length ≤ 100000 ∧ Pen H a n ∧ n < lim ∧
  ∀ v H', v ∈ xs → Pen H' a (n + 1) → (∀ b o, b ≠ a → H b = some o → H' b = some o) → Q v H'
end L3
end
section
namespace L3
open PySem PySem.Spec PyProof.Rows L2
end L3
end
section
namespace L3
open PySem PySem.Spec PyProof.Rows L2
variable {K : PySem.W.Frag} {σ : L2.St} {H : Hp} {te : TE} {Q : VK}
def flatD : V → PyData
  | .int i => .int i
  | .bl b => .bool b
  | .str z => .str z
  | _ => .none
def fitF : V → Bool
  | .int i => decide (i.natAbs.log2 < 1920)
  | .bl _ => true
  | .non => true
  | _ => false
theorem len_app (a b : Str) : (a ++ b).length = a.length + b.length := by
  rw [← len_codes, ← len_codes, ← len_codes]
  show (a.cps ++ b.cps).toList.length = _
  rw [Array.toList_append, List.length_append]
theorem textFrom_ub : ∀ (ts : List Str) (k : Nat) (acc : Str), (textFrom k acc ts).length ≤ acc.length + (ts.map fun t => t.length + 2).sum
  | [], k, acc => Nat.le_refl _
  | t :: r, k, acc => by
    have := textFrom_ub r (k + 1) (acc ++ (if k > 0 then ", " else "" : String) ++ t)
    have h2 : (Str.ofString (if k > 0 then ", " else "" : String)).length ≤ 2 := by split <;> decide
    rw [len_app, len_app] at this
    rw [List.map_cons, List.sum_cons]
    exact Nat.le_trans this (by omega)
theorem listText_ub (ts : List Str) : (listText ts).length ≤ 2 + (ts.map fun t => t.length + 2).sum := by
  unfold listText
  rw [len_app]
  have := textFrom_ub ts 0 "["
  have e1 : (Str.ofString "[").length = 1 := by decide
  have e2 : (Str.ofString "]").length = 1 := by decide
  omega
end L3
end
section
namespace L3
open PySem PySem.Spec PyProof.Rows L2
end L3
namespace L3
open PySem PySem.Spec PyProof.Rows L2
/-- one field, two fields, none -/
def spErr1 (C : Addr) (f : Str) : Sp := fun vs H Q _ => ∃ a v, vs = [.ref a, v] ∧ H a = some (exo a C none) ∧ ∀ dx, H dx = none → dx ≠ a → Q .non (upd (upd H dx (exd dx [(f, v)])) a (exo a C (some dx)))
end L3
end
section
namespace L3
open PySem PySem.Spec PyProof.Rows L2
/-- at a: an error of the class cls, its dict at d -/
def ExV (a : Addr) (cls : Value) (d : Option Addr) : HO := .ext fun h => ∃ oe, h.get? a = some oe ∧ Zc cls d oe ∧ ∃ vs, oe.data = .fields vs
end L3
namespace L3
open PySem PySem.Spec PySem.Calls PyProof.Rows PySem.W
end L3
namespace L3
open PySem PySem.Spec PyProof.Rows L2
/-- a field of a kept error -/
def tXfV (K : PySem.W.Frag) (n : Str) (te : TE) : TE := fun σ H Q => te σ H fun x H1 => ∃ (a C d : Addr) (fs : List (Str × V)) (v : V), x = .ref a ∧ H1 a = some (ExV a (.ref C) (some d)) ∧ H1 d = some (.xd fs) ∧ XfC K C ∧ PySem.W.findIn K (.ref C) n = some none ∧ fs.lookup n = some v ∧ Q v H1
end L3
end
section
namespace L3
open PySem PySem.Spec PySem.Calls PyProof.Rows PySem.W
end L3
namespace L3
open PySem PySem.Spec PySem.Calls PyProof.Rows PySem.W
end L3
end
section
namespace L3
open PySem PySem.Spec PyProof.Rows L2
section
variable {X : Cx} {CX : CXT} {k : Nat} {C f g : Addr} {fd fd' : FuncData} {ps : List Str} {sp : Sp} {E : XK} {op : Operator}
theorem rel_back {Q : Value → Shared → Prop} {v : V} {u : Value} {s : Shared} (r : RelV v u) (h : Q u s) : PySem.W.CmpBack Q u s := by
  cases u <;> first | exact h | skip
  all_goals (cases v <;> first | (exact False.elim r) | (obtain ⟨_, z⟩ := r; cases z; done) | (obtain ⟨z, _⟩ := r; cases z; done) | (cases r; done))
theorem ins_inst {P : Program} {w : World} {H : Hp} {h : Heap} {a C dx : Addr} {fs : List (Str × V)} (hok : HOk P w H h) (e : H a = some (.ins C dx fs)) : ∃ od, PySem.W.InstAt h a (PySem.W.instObj C dx) C (some od) := by
  obtain ⟨h1, _, h3, h4, mA, hns, _⟩ := (show ObjOk P w H h a (.ins C dx fs) from hok a _ e)
  obtain ⟨od, ho, _⟩ := lookIn_ns hns
  exact ⟨od, h4, rfl, rfl, ho⟩
/-- an operator of two values, its number part -/
def OpR1 (X : Cx) (op : Operator) (r : R2) : Prop := ∀ (pins : List (Addr × Obj)) (s : Shared) (σ : L2.St) (H : Hp) (x y : V) (v u : Value) (Q : VK), Inv X pins σ H s → RelV x v → RelV y u → r x y H Q →
  wpAny (model X.prog X.w) X.A (binaryOp1 op.info.2 v u) (fun r s' => ∃ z, r = some z ∧ EP X pins σ Q z s') X.xe s
theorem OpR1.or {r r' : R2} (h : OpR1 X op r) (h' : OpR1 X op r') : OpR1 X op (fun x y H Q => r x y H Q ∨ r' x y H Q) := fun pins s σ H x y v u Q I rx ry q => q.elim (h pins s σ H x y v u Q I rx ry) (h' pins s σ H x y v u Q I rx ry)
end
end L3
namespace L3
open PySem PySem.Spec PySem.Calls PyProof.Rows PySem.W
end L3
namespace L3
open PySem PySem.Spec PyProof.Rows L2
end L3
namespace L3
open PySem PySem.Spec PyProof.Rows L2
end L3
end
section
namespace L3
open PySem PySem.Spec PyProof.Rows L2 LamX
section
variable {P : Program} {w : World} {K : PySem.W.Frag} {mg : Str → Option Value} {base : Heap} {CX : CXT} {x qual : Str} {f : Addr} {fd : FuncData} {N ps : List Str} {k : Nat} {sp : Sp}
theorem funO {st : Stmt} (F : L2.Fun K x qual st f fd) (S : FnScope N ps (defScope st)) (len : ∀ vs H Q E, sp vs H Q E → vs.length = ps.length)
    (body : ∀ (cd : Value) (A : Around) (fr : List Env) (s : Shared) (H : Hp) (vs : List V) (Q : VK) (E : XK), Room k (A.deeper (envOfC qual (defScope st) s.heap.objs.size f cd)) → sp vs H Q E →
      ∃ t, PSs (cxOf CX P w K mg base N qual (defScope st) f cd A fr s H E) (defBody st) t ∧ t { nx := fun _ H' => Q .non H', rt := Q } (L2.start N vs) H) :
    FnOk P w K mg base CX (k + 1) f fd ps sp := by
  obtain ⟨oc, od, kV, doc, pm, an, cd, ct, sl, rfl, lk, hcd⟩ := F.ex
  exact ⟨len, fun A fr s H as us vs Q E hr e0 hb r h => LamX.run_ofS lk hcd S hr e0 hb r (len _ _ _ _ h) fun hr' => body cd A fr s H vs Q E hr' h⟩
/-- a class of the module, made by its name -/
structure McO (P : Program) (w : World) (K : PySem.W.Frag) (mg : Str → Option Value) (base : Heap) (CX : CXT) (k : Nat) (x : Str) (C : Addr) (ps : List Str) (sp : Sp) (dvs : List V) : Prop where
  ex : ∃ (f : Addr) (fd : FuncData) (ds : List Value), FnOk P w K mg base CX k f fd ps sp ∧ mg x = some (.ref C) ∧ Mk K C f ∧ L2.Binds K fd ps ds ∧ Vals dvs ds
end
section
variable {X : Cx} {CX : CXT} {k : Nat} {ps : List Str} {sp : Sp} {E : XK} {x : Str} {p pos : Pos} {e : Expr} {es : List Expr} {t : TA}
theorem pe_mko {j : Nat} {C : Addr} {dvs : List V} (c : McO X.prog X.w X.K X.mg X.base CX k x C ps sp dvs) (hr : Room j X.A) (hx : Passes CX X E) (ha : PA X (e :: es) t) (hk : k + 1 ≤ j := by decide) (gl : Gl X x := by rfl)
    (hdb : (x == ("__debug__" : Str)) = false := by decide) (he : starEach (e :: es) X.env = (false, eval e X.env) :: starEach es X.env := by rfl) (hpl : (backTo pos (starEach es X.env)).any (·.1) = false := by rfl) :
    PE X (.Call (.Name x p) (e :: es) [] pos) (tMake C sp dvs E t) := by
  obtain ⟨f, fd, ds, F, m, M, b, hd⟩ := c.ex
  exact pe_make M F (hr.mono hk) gl m b hd hx ha hdb he hpl
/-- nothing leaves -/
theorem passF : Passes (L2.CX X.prog X.w) X (fun _ _ _ => False) := fun _ _ _ _ _ _ _ ⟨_, _, _, _, _, _, _, _, _, _, _, _, z⟩ => z.elim
end
def Rz (C : Addr) (g : Str) (v : V) (H : Hp) (E : XK) : Prop := ∀ d H', H d = none → Ex H H' → H' d = some (.xd [(g, v)]) → E (.ref C) (some d) H'
def rMk1 (C : Addr) (g : Str) (vs : List V) (H1 : Hp) (E : XK) : Prop := vs.length ≤ 1000 ∧ ∀ a, H1 a = none → spErr1 C g (.ref a :: (vs ++ [])) (upd H1 a (exo a C none))
  (fun v H2 => v = .non ∧ ∃ (d : Addr) (fs : List (Str × V)), H2 a = some (exo a C (some d)) ∧ H2 d = some (exd d fs) ∧ H1 d = none ∧ E (.ref C) (some d) (upd (del H2 a) d (.xd fs))) (fun _ _ _ => False)
def tRaise1 (C : Addr) (g : Str) (te : TE) (W : WX) : TS := fun _ σ H => te σ H fun v H1 => rMk1 C g [v] H1 (fun cls d H' => W cls d σ H')
theorem s_raise1 {C : Addr} {g : Str} {te : TE} {W : WX} {D : Ends} {σ : L2.St} {H : Hp} (h : te σ H fun v H1 => rMk1 C g [v] H1 (fun cls d H' => W cls d σ H')) : tRaise1 C g te W D σ H := h
end L3
end
section
namespace L3
open PySem PySem.Spec PyProof.Rows L2 LamX
inductive Od (H : Hp) : V → Str → Prop
  | non : Od H .non (PyData.shown .none)
  | bl (b : Bool) : Od H (.bl b) (PyData.shown (.bool b))
  | str (z : Str) : z.length ≤ 100 → (PyData.str z).shown.length ≤ 1001 → Od H (.str z) (PyData.str z).shown
  | tup {p : Addr} {xs : List V} : H p = some (.tup xs) → xs.all fitF = true → (PyData.tuple (xs.map flatD)).shown.length ≤ 1000 → Od H (.ref p) (PyData.tuple (xs.map flatD)).shown
  | lst {p : Addr} {xs : List V} : H p = some (.lst xs) → xs.all fitF = true → xs.length ≤ 1000 → Od H (.ref p) (PyData.list (xs.map flatD)).shown
  | dic {p : Addr} : H p = some (.dK []) → Od H (.ref p) (PyData.dict []).shown
theorem Od.ex {H H' : Hp} {v : V} {t : Str} (h : Od H v t) (e : Ex H H') : Od H' v t := by
  cases h with
  | non => exact .non
  | bl b => exact .bl b
  | str z h1 h3 => exact .str z h1 h3
  | tup h1 h2 h3 => exact .tup (e _ _ h1) h2 h3
  | lst h1 h2 h3 => exact .lst (e _ _ h1) h2 h3
  | dic h1 => exact .dic (e _ _ h1)
abbrev odTys : List String := ["NoneType", "bool", "str", "tuple", "list", "dict"]
theorem Od.ty {K : PySem.W.Frag} {H : Hp} {v : V} {t : Str} (h : Od H v t) : (∃ b, v = .bl b) ∨ ∃ T, TyX K H v (.type T) ∧ T ∈ ["NoneType", "str", "tuple", "list", "dict"] := by
  cases h with
  | non => exact .inr ⟨_, .base .non, by simp⟩
  | bl b => exact .inl ⟨b, rfl⟩
  | str z _ _ => exact .inr ⟨_, .base (.str z), by simp⟩
  | tup h1 _ _ => exact .inr ⟨_, .base (.tup h1), by simp⟩
  | lst h1 _ _ => exact .inr ⟨_, .base (.lst h1), by simp⟩
  | dic h1 => exact .inr ⟨_, .base (.dK h1), by simp⟩
theorem Od.tyAll {K : PySem.W.Frag} {H : Hp} {v : V} {t : Str} (h : Od H v t) : ∃ T, TyX K H v (.type T) ∧ T ∈ odTys := by
  rcases h.ty (K := K) with ⟨b, rfl⟩ | ⟨T, h1, h2⟩
  · exact ⟨_, .base (.bl b), by simp⟩
  · exact ⟨T, h1, by simp only [List.mem_cons] at h2 ⊢; rcases h2 with h | h | h | h | h | h <;> simp_all⟩
end L3
end
section
namespace L3
open PySem PySem.Spec PyProof.Rows L2 LamX
def flds (o u : Int) : List (Str × V) := putF "under" (.int u) (putF "over" (.int o) [])
def Rt (C : Addr) (H : Hp) (p : Addr) (o u : Int) : Prop := ∃ dx, H p = some (.ins C dx (flds o u))
/-- a number: a fraction or an int -/
def Nm (C : Addr) (H : Hp) (y : V) (o u : Int) : Prop := (∃ q, y = .ref q ∧ Rt C H q o u) ∨ (y = .int o ∧ u = 1)
theorem ins_tbl {C dx : Addr} {fs : List (Str × V)} : ∀ ps, HO.ins C dx fs ≠ .tbl ps := fun _ z => nomatch z
theorem Rt.exN {C : Addr} {H H' : Hp} {p : Addr} {o u : Int} (h : Rt C H p o u) (e : ExtN H H') : Rt C H' p o u := by
  obtain ⟨dx, h⟩ := h
  exact ⟨dx, e _ _ h ins_tbl⟩
theorem Ex.n {H H' : Hp} (e : Ex H H') : ExtN H H' := fun b o h _ => e b o h
theorem Rt.ex {C : Addr} {H H' : Hp} {p : Addr} {o u : Int} (h : Rt C H p o u) (e : Ex H H') : Rt C H' p o u := h.exN e.n
theorem Nm.exN {C : Addr} {H H' : Hp} {y : V} {o u : Int} (h : Nm C H y o u) (e : ExtN H H') : Nm C H' y o u := by
  rcases h with ⟨q, rfl, h⟩ | h
  · exact .inl ⟨q, rfl, h.exN e⟩
  · exact .inr h
theorem Nm.ex {C : Addr} {H H' : Hp} {y : V} {o u : Int} (h : Nm C H y o u) (e : Ex H H') : Nm C H' y o u := h.exN e.n
theorem Od.exN {H H' : Hp} {v : V} {t : Str} (h : Od H v t) (e : ExtN H H') : Od H' v t := by
  cases h with
  | non => exact .non
  | bl b => exact .bl b
  | str z h1 h3 => exact .str z h1 h3
  | tup h1 h2 h3 => exact .tup (e _ _ h1 fun _ z => nomatch z) h2 h3
  | lst h1 h2 h3 => exact .lst (e _ _ h1 fun _ z => nomatch z) h2 h3
  | dic h1 => exact .dic (e _ _ h1 fun _ z => nomatch z)
/-- within bounds -/
structure Bd (o u : Int) : Prop where
  ho : o.natAbs < 2 ^ 1000
  hu : u.natAbs < 2 ^ 1000
  pos : 0 < u
theorem Bd.ne {o u : Int} (b : Bd o u) : u ≠ 0 := by have := b.pos; omega
abbrev numTys : List String := ["int", "NoneType", "bool", "str", "tuple", "list", "dict"]
def OthV (C : Addr) (y : V) (H : Hp) : Prop := (∃ b dx fs, y = .ref b ∧ H b = some (.ins C dx fs)) ∨ (∃ i, y = .int i) ∨ ∃ t, Od H y t
/-- own first -/
def rOwn (C : Addr) (sp : Sp) (E : XK) : R2 := fun x y H Q => ∃ a dx fs, x = .ref a ∧ H a = some (.ins C dx fs) ∧ OthV C y H ∧ sp [x, y] H Q E
end L3
end
section
namespace L3
open PySem PySem.Spec PyProof.Rows L2 LamX
namespace KX
variable {X : Cx} {K : PySem.W.Frag} (hK : X.K = K)
include hK
theorem tup {es : List Expr} {k : Nat} {t : TGs} {n : Nat} {pos : Pos} (hc : X.calm = true) (h : PGs X es t)
    (hn : (assignEach es X.env).length = n := by rfl) (hst : (assignEach es X.env).findIdx? (·.1) = none := by rfl) : PG X (.Tuple es k pos) (gTup K n t) := by subst hK; exact pg_tup hc h hn hst
end KX
section
variable {K : PySem.W.Frag} {σ : L2.St} {H : Hp} {Q : VK} {D : Ends} {C : Addr} {o u : Int} {te ta : TE}
theorem s_par3 {i j l : Nat} {tt : TA} (h : tt σ H fun vs H1 => ∃ u v w, vs = [u, v, w] ∧ D.nx (((σ.set i (some u)).set j (some v)).set l (some w)) H1) : tPar3 i j l tt D σ H := h
theorem s_trip {R : V → V → V → Prop} {x y z : V} (h : R x y z) : ∃ u v w, [x, y, z] = [u, v, w] ∧ R u v w := ⟨x, y, z, rfl, h⟩
theorem s_aug {i : Nat} {ti : TIp} {x : V} (e : σ[i]? = some (some x)) (h : te σ H fun y H1 => ti x y H1 fun z H2 => D.nx (σ.set i (some z)) H2) : tAug i te ti D σ H := ⟨x, e, h⟩
theorem s_asgT' {n : Nat} {tg : TGs} (h : te σ H fun x H1 => gTup K n tg x σ H1 D.nx) : tAsg te (gTup K n tg) D σ H := h
theorem s_gT {a : Addr} {xs : List V} {n : Nat} {tg : TGs} {R : L2.St → Hp → Prop} (e : H a = some (.tup xs)) (hn : xs.length = n) (h : tg xs σ H R) : gTup K n tg (.ref a) σ H R := ⟨a, xs, rfl, .inl (.inl e), hn, h⟩
theorem s_gC {i : Nat} {v : V} {r : List V} {tg : TGs} {R : L2.St → Hp → Prop} (h : tg r (σ.set i (some v)) H R) : gCons (gName i) tg (v :: r) σ H R := ⟨v, r, rfl, h⟩
theorem s_gN {R : L2.St → Hp → Prop} (h : R σ H) : gNil [] σ H R := ⟨rfl, h⟩
theorem s_fldG {f : Str} (h : ta σ H fun x H1 => ∃ a C dx fs v, x = .ref a ∧ H1 a = some (.ins C dx fs) ∧ Cls K C ∧ NoAttr K C f ∧ fs.lookup f = some v ∧ Q v H1) : tFld K ta f σ H Q := h
theorem s_xfV {n : Str} (h : te σ H fun x H1 => ∃ (a C d : Addr) (fs : List (Str × V)) (v : V), x = .ref a ∧ H1 a = some (ExV a (.ref C) (some d)) ∧ H1 d = some (.xd fs) ∧ XfC K C ∧ PySem.W.findIn K (.ref C) n = some none ∧ fs.lookup n = some v ∧ Q v H1) : tXfV K n te σ H Q := h
/-- a def's data stay -/
theorem Dp.exN {H' : Hp} (e : ExtN H H') : ∀ (d : PyData) (v : V), (∀ a xs, SqL K H a xs → SqL K H' a xs) → (∀ a xs, SqT K H a xs → SqT K H' a xs) → Dp K H v d → Dp K H' v d := by
  intro d v h1 h2 h
  induction h using Dp.rec (motive_2 := fun vs ds _ => DpAll K H' vs ds) with
  | non => exact .non
  | bl b => exact .bl b
  | int i => exact .int i
  | str z => exact .str z
  | lst a _ b => exact .lst (h1 _ _ a) b
  | tup a _ b => exact .tup (h2 _ _ a) b
  | nil => exact .nil
  | cons _ _ a b => exact .cons a b
theorem penO_tbl {a c : Addr} {n : Nat} : ∀ ps, PenO a c n ≠ .tbl ps := fun _ z => by unfold PenO at z; cases z
theorem scO_tbl {c : Addr} {ns : List Int} : ∀ ps, ScO c ns ≠ .tbl ps := fun _ z => by unfold ScO at z; cases z
theorem Pen.exN {H' : Hp} {a : Addr} {n : Nat} (p : Pen H a n) (e : ExtN H H') : Pen H' a n := by
  obtain ⟨c, ns, h1, h2, h3⟩ := p
  exact ⟨c, ns, e _ _ h1 penO_tbl, e _ _ h2 scO_tbl, h3⟩
theorem Pen.ex {H' : Hp} {a : Addr} {n : Nat} (p : Pen H a n) (e : Ex H H') : Pen H' a n := Pen.exN p e.n
theorem Pen.at {a : Addr} {n : Nat} (p : Pen H a n) : ∃ c, H a = some (PenO a c n) := by
  obtain ⟨c, ns, h1, _⟩ := p
  exact ⟨c, h1⟩
theorem Wo.exN {T : List (Addr × Str)} {H' : Hp} {a : Addr} {n : Nat} (w : Wo T H a n) (e : ExtN H H') (t : Tabs T H') : Wo T H' a n := ⟨Pen.exN w.pen e, t⟩
/-- a tuple of two ints -/
def Pr (H : Hp) (v : V) (a b : Int) : Prop := ∃ p, v = .ref p ∧ H p = some (.tup [.int a, .int b])
theorem Pr.exN {H' : Hp} {v : V} {a b : Int} (h : Pr H v a b) (e : ExtN H H') : Pr H' v a b := by
  obtain ⟨p, rfl, h⟩ := h
  exact ⟨p, rfl, e _ _ h fun _ z => nomatch z⟩
theorem Pr.ex {H' : Hp} {v : V} {a b : Int} (h : Pr H v a b) (e : Ex H H') : Pr H' v a b := h.exN e.n
end
end L3
end
section
namespace L3
open PySem PySem.Spec PyProof.Rows L2 LamX
section
variable {K : PySem.W.Frag} {σ : L2.St} {H H' : Hp} {Q : VK} {C CB : Addr}
inductive Prs (H : Hp) : List V → List (Int × Int) → Prop
  | nil : Prs H [] []
  | cons {v : V} {vs : List V} {q : Int × Int} {qs : List (Int × Int)} : Pr H v q.1 q.2 → Prs H vs qs → Prs H (v :: vs) (q :: qs)
theorem Prs.exN {vs : List V} {qs : List (Int × Int)} (h : Prs H vs qs) (e : ExtN H H') : Prs H' vs qs := by
  induction h with
  | nil => exact .nil
  | cons a _ b => exact .cons (a.exN e) b
theorem Prs.ex {vs : List V} {qs : List (Int × Int)} (h : Prs H vs qs) (e : Ex H H') : Prs H' vs qs := h.exN e.n
theorem Prs.length {vs : List V} {qs : List (Int × Int)} (h : Prs H vs qs) : vs.length = qs.length := by
  induction h with
  | nil => rfl
  | cons _ _ b => simp [b]
theorem s_lcL {te ta : TE} {g : TG} {tt : TT} {vs : List Nat} (h : ta σ H fun x H1 => ∃ a, x = .ref a ∧ (∃ xs, SqL K H1 a xs) ∧ LC (Itl K a) g tt te vs σ H1 Q) : tLc (iList K ta) g tt te vs σ H Q := h
/-- so far heard: the list l of equal pairs; the fraction m, the other value v with its text tx; the pen -/
structure Sx (Tt : List (Addr × Str)) (C l m p : Addr) (n : Nat) (o u : Int) (v : V) (tx : Str) (H : Hp) (xs : List V) : Prop where
  lst : H l = some (.lst xs)
  els : ∀ x ∈ xs, ∃ r, x = .ref r ∧ H r = some (.tup [.str "ratio", .str tx])
  rt : Rt C H m o u
  od : Od H v tx
  ne : v ≠ .ref l
  wo : Wo Tt H p n
  few : xs.length ≤ 1000
theorem Sx.exN {Tt : List (Addr × Str)} {l m p : Addr} {n : Nat} {o u : Int} {v : V} {tx : Str} {xs : List V} (S : Sx Tt C l m p n o u v tx H xs) (e : ExtN H H') (t : Tabs Tt H') : Sx Tt C l m p n o u v tx H' xs := by
  refine ⟨e _ _ S.lst (fun _ z => nomatch z), fun x hx => ?_, S.rt.exN e, S.od.exN e, S.ne, S.wo.exN e t, S.few⟩
  obtain ⟨r, h1, h2⟩ := S.els x hx
  exact ⟨r, h1, e _ _ h2 fun _ z => nomatch z⟩
theorem Od.keep {p : Addr} {v : V} {tx : Str} (h : Od H v tx) (hn : v ≠ .ref p) (k : ∀ b o, b ≠ p → H b = some o → H' b = some o) : Od H' v tx := by
  cases h with
  | non => exact .non
  | bl b => exact .bl b
  | str z h1 h3 => exact .str z h1 h3
  | tup h1 h2 h3 => exact .tup (k _ _ (fun z => hn (by rw [z])) h1) h2 h3
  | lst h1 h2 h3 => exact .lst (k _ _ (fun z => hn (by rw [z])) h1) h2 h3
  | dic h1 => exact .dic (k _ _ (fun z => hn (by rw [z])) h1)
end
end L3
end
section
namespace L3
open PySem PySem.Spec PySem.Calls PyProof.Rows PySem.W
section
variable {prog : Program} {w : World} {A : Around} {E : Value → Shared → Prop} {s : Shared} {K : Frag} {x C f : Addr} {ox : Obj} {od : Option Obj} {T id : String} {name : Str} {B : Builtin} {u : Value} {op : CmpOp}
/-- a value of a built-in type, as the machine has it -/
inductive LU (h : Heap) : Value → String → Prop
  | non : LU h .none "NoneType"
  | bl (b : Bool) : LU h (.bool b) "bool"
  | str (z : Str) (t : Tok) : LU h (.str z t) "str"
  | tup {l : Addr} {o : Obj} : h.get? l = some o → o.cls = .type "tuple" → LU h (.ref l) "tuple"
  | lst {l : Addr} {o : Obj} : h.get? l = some o → o.cls = .type "list" → LU h (.ref l) "list"
  | dic {l : Addr} {o : Obj} : h.get? l = some o → o.cls = .type "dict" → LU h (.ref l) "dict"
theorem LU.is (h : LU s.heap u T) : s.TypeIs u T := by
  cases h with
  | non => exact rfl
  | bl b => exact rfl
  | str z t => exact rfl
  | tup e c => exact ⟨_, e, c⟩
  | lst e c => exact ⟨_, e, c⟩
  | dic e c => exact ⟨_, e, c⟩
/-- != by the class's own == -/
theorem try_ne {Q : Value → Shared → Prop} (hu : A.units + 1 < cLine) (X : K.In s.heap) (I : InstAt s.heap x ox C od) (hne : findIn K (.ref C) "__ne__" = some (some (.builtin "object.__ne__"))) (heq : findIn K (.ref C) "__eq__" = some (some (.ref f))) (hf : isFn K (.ref f) = true) (hob : mroIn K C (.type "object") = some true)
    (run : wpAny (model prog w) A.in1 (call (.ref f) [.ref x, u]) (fun v s' => ∃ c, v = .bool c ∧ Q (.bool (!c)) s') E s) :
    wpAny (model prog w) A (tryCompare (.ref x) "__ne__" u) (fun r s' => ∃ v, r = some v ∧ Q v s') E s := by
  have hin : Looks (model prog w) s.heap (isInstance (.ref x) (.type "object")) true := I.type.andThen (looks_mroIn X hob)
  have slot := PySem.F.slot_tuple_iterator_ne
  have body : wpAny (model prog w) A.in1 (Builtin.«object.__ne__» ⟨[.ref x, u], []⟩) (fun fin s' => ∃ v, fin = .done (.ret v) ∧ v ≠ .notImplemented ∧ Q v s') E s := by
    obtain ⟨hp, g, d, tk, os⟩ := s
    unfold Builtin.«object.__ne__»
    repeat (first
      | with_reducible refine wpAny_cRoomFor hu ?_
      | (refine wpAny_bind (m := callSpecialIfBound? (.ref x) (Str.ofString "__eq__") [u]) (ifBound_K X I heq hf (wpAny_mono run (fun r s' hr => by
          obtain ⟨b, rfl, hq⟩ := hr
          repeat (first | exact ⟨.bool (!b), rfl, (by intro z; cases z), hq⟩ | exact wpAny_pure ⟨.bool (!b), rfl, (by intro z; cases z), hq⟩ | (refine wpAny_bind (m := truthy (.bool _)) (wpAny_truthy_bool ?_)) | wp_step)) fun _ _ e => e)))
      | wp_step)
  have called : wpAny (model prog w) A (call (.builtin "object.__ne__") [.ref x, u]) (fun v s' => v ≠ .notImplemented ∧ Q v s') E s := by
    refine wpAny_call (codeAny_call_builtin slot.plain PySem.F.cmpEntry_ne ?_)
    refine @check_slot (model prog w) _ _ s "object.__ne__" "object" "__ne__" (.ref x) [u] [] _ PySem.F.cmpKind_ne PySem.F.cmpSplit_ne hin (PySem.F.cmpArgs_ne _ _) ?_
    refine wpAny_mono body (fun fin s' hf => ?_) fun _ _ e => e
    obtain ⟨v, rfl, h1, h2⟩ := hf
    exact ⟨h1, h2⟩
  unfold tryCompare
  simp only [callSpecialIfBound?, bindSpecialIfBound?]
  refine wpAny_bind (wpAny_holding (wpAny_bind (wpAny_bind (wpAny_bind (I.type.here ((looks_findIn X hne).here ?_))))))
  simp only [slot.bind]
  refine wpAny_bind (wpAny_askSetting (wpAny_ite ?_))
  have fin : wpAny (model prog w) A (call (.builtin "object.__ne__") ([.ref x] ++ [u]) >>= fun v => pure (some v)) (fun r s' => wpAny (model prog w) A (match r with | some .notImplemented | none => pure none | some v => pure (some v)) (fun r s' => ∃ v, r = some v ∧ Q v s') E s') E s :=
    wpAny_bind (wpAny_mono called (fun v s' h' => wpAny_pure (by
      obtain ⟨h1, h2⟩ := h'
      cases v <;> first | exact absurd rfl h1 | exact wpAny_pure ⟨_, rfl, h2⟩)) fun _ _ h' => h')
  split
  · exact wpAny_bind (wpAny_pure (wpAny_pure (by exact fin)))
  · exact wpAny_tryCatch (wpAny_bind (wpAny_pure (wpAny_pure (by exact fin))))
/-- bool(x) by the class's own __bool__ -/
theorem call_boolOwn {Q : Value → Shared → Prop} (X : K.In s.heap) (I : InstAt s.heap x ox C od) (hs : findIn K (.ref C) "__bool__" = some (some (.ref f))) (hf : isFn K (.ref f) = true)
    (run : wpAny (model prog w) A.in1.in1 (call (.ref f) [.ref x]) (fun v s' => ∃ c, v = .bool c ∧ Q (.bool c) s') E s) : wpAny (model prog w) A (call (.type "bool") [.ref x]) Q E s := by
  refine callType_newIn (S := fun A R s => wpAny (model prog w) A.in1 (truthy (.ref x)) (fun b s' => R (.ok (.ret (.bool b))) s') (fun e s' => R (.error e) s') s) PySem.F.called_bool PySem.F.newNe_bool (PySem.F.typeCall_bool_1 _) (PySem.F.newCall_bool_1 _) (fun obj => PySem.F.args_object_init_2 obj _) PySem.F.entry_bool_new (fun A R s hs => ?_) ?_
  · obtain ⟨hp, g, d, tk, os⟩ := s
    have f1 := PySem.F.conv_sub_bool
    repeat (any_goals (first | assumption | (refine wpAny_bind (m := truthy (.ref x)) (wpAny_mono hs (fun b s' hb => ?_) fun _ _ e => e)) | wp_step))
    all_goals first | exact hb | skip
  · unfold truthy
    refine wpAny_bind (m := callSpecial? (.ref x) (Str.ofString "__bool__")) (special_fn X I hs (beq_iff_eq.mp hf) (wpAny_mono run (fun r s' hr => ?_) fun _ _ y => y))
    obtain ⟨c, rfl, hq⟩ := hr
    exact wpAny_pure ⟨rfl, hq⟩
end
end L3
end
section
namespace L3
open PySem PySem.Spec PySem.Calls PyProof.Rows PySem.W
theorem cmp_first {prog : Program} {w : World} {A : Around} {E : Value → Shared → Prop} {s : Shared} {K : Frag} {x C : Addr} {ox : Obj} {od : Option Obj} {op : CmpOp} {b tb : Value} {Q : Value → Shared → Prop} {f : Str} (hu : A.units < cLine) (X : K.In s.heap) (I : InstAt s.heap x ox C od) (hb : Looks (model prog w) s.heap (typeOf b) tb) (hn : notFirst K C tb = true) (hf : (cmpInfo op).2.1 = f)
    (one : wpAny (model prog w) A (tryCompare (.ref x) f b) (fun r s' => ∃ v, r = some v ∧ Q v s') E s) : wpAny (model prog w) A (richCompare op (.ref x) b) Q E s := by
  subst hf
  unfold richCompare
  simp only [oneThing_ref]
  refine wpAny_holding (wpAny_bind (wpAny_cRoomFor hu ?_))
  refine wpAny_bind (I.type.here (wpAny_bind (hb.here ?_)))
  have fin : ∀ (r : Option Value) (s' : Shared), (∃ v, r = some v ∧ Q v s') → ∃ v, r = some v ∧ Q v s' := fun _ _ z => z
  by_cases q : (Value.ref C != tb) = true
  · rw [if_pos q]
    have e : subIn K tb (.ref C) = some false := by
      rcases Bool.or_eq_true_iff.mp hn with e | e
      · rw [beq_iff_eq.mp e] at q; simp at q
      · exact beq_iff_eq.mp e
    refine wpAny_bind ((looks_subIn X e).here ?_)
    simp only [Bool.false_eq_true, if_false]
    refine wpAny_bind (wpAny_mono one (fun r s' z => ?_) fun _ _ e => e)
    obtain ⟨v, rfl, hq⟩ := z
    exact wpAny_pure hq
  · rw [if_neg q]
    refine wpAny_bind (wpAny_pure ?_)
    simp only [Bool.false_eq_true, if_false]
    refine wpAny_bind (wpAny_mono one (fun r s' z => ?_) fun _ _ e => e)
    obtain ⟨v, rfl, hq⟩ := z
    exact wpAny_pure hq
end L3
namespace L3
open PySem PySem.Spec PyProof.Rows L2 LamX
/-- what the written part says of the class, for its comparisons -/
structure CmpF (K : PySem.W.Frag) (C : Addr) : Prop where
  notF : (numTys.all fun T => PySem.W.notFirst K C (.type T)) = true
  notC : PySem.W.notFirst K C (.ref C) = true
  subs : (numTys.all fun T => decide (PySem.W.subIn K (.ref C) (.type T) = some false)) = true
  ob : PySem.W.mroIn K C (.type "object") = some true
  ne : PySem.W.findIn K (.ref C) "__ne__" = some (some (.builtin "object.__ne__"))
/-- a method of two parameters by its name -/
structure Me (P : Program) (w : World) (K : PySem.W.Frag) (mg : Str → Option Value) (base : Heap) (C : Addr) (m : Str) (k : Nat) (ps : List Str) (sp : Sp) : Prop where
  ex : ∃ (f : Addr) (fd : FuncData), PySem.W.findIn K (.ref C) m = some (some (.ref f)) ∧ PySem.W.isFn K (.ref f) = true ∧ FnOk P w K mg base (L2.CX P w) k f fd ps sp ∧ L2.Binds K fd ps []
section
variable {X : Cx} {C : Addr} {op : CmpOp} {k j : Nat} {sp : Sp} {E : XK} {m : Str}
theorem oth_looks {pins : List (Addr × Obj)} {σ : L2.St} {H : Hp} {s : Shared} {y : V} {u : Value} (F : CmpF X.K C) (I : Inv X pins σ H s) (r : RelV y u) (h : OthV C y H) : ∃ tb, PySem.W.Looks (model X.prog X.w) s.heap (typeOf u) tb ∧ PySem.W.notFirst X.K C tb = true := by
  have go : ∀ T, TyX X.K H y (.type T) → T ∈ numTys → ∃ tb, PySem.W.Looks (model X.prog X.w) s.heap (typeOf u) tb ∧ PySem.W.notFirst X.K C tb = true := fun T ty hm => by
    obtain ⟨P', kx, hP, _⟩ := kit_of I r ty
    exact ⟨_, kx.ty _ _ I.kIn hP, List.all_eq_true.mp F.notF T hm⟩
  rcases h with ⟨b, dx, fs, rfl, e⟩ | ⟨i, rfl⟩ | ⟨t, h⟩
  · obtain rfl : u = Value.ref b := r
    obtain ⟨od, J⟩ := ins_inst I.hok e
    exact ⟨_, J.type, F.notC⟩
  · exact go _ (.base (.int i)) (by simp)
  · obtain ⟨T, h1, h2⟩ := h.tyAll (K := X.K)
    exact go T h1 (List.mem_cons_of_mem _ h2)
/-- != by the own ==: own first -/
theorem ask_ne {pins : List (Addr × Obj)} {s : Shared} {σ : L2.St} {H : Hp} {a dx : Addr} {fs : List (Str × V)} {x : V} {v : Value} {Q : VK} (F : CmpF X.K C) (B : Me X.prog X.w X.K X.mg X.base C "__eq__" k ["self", "other"] sp) (hr : Room (j + 1) X.A) (hx : Passes (L2.CX X.prog X.w) X E) (hk : k ≤ j)
    (I : Inv X pins σ H s) (rx : RelV x v) (ea : H a = some (.ins C dx fs)) (q : sp [.ref a, x] H (fun z H' => ∃ c, z = .bl c ∧ Q (.bl (!c)) H') E) : wpAny (model X.prog X.w) X.A (tryCompare (.ref a) "__ne__" v) (fun r s' => ∃ z, r = some z ∧ EP X pins σ Q z s') X.xe s := by
  obtain ⟨f, fd, h1, h2, G, b⟩ := B.ex
  obtain ⟨od, J⟩ := ins_inst I.hok ea
  have hl : ([Value.ref a, v] : List Value).length = (["self", "other"] : List Str).length := rfl
  refine try_ne (by have := hr.units; omega) I.kIn J F.ne h1 h2 F.ob ?_
  refine wpAny_call (codeAny_mono (G.run X.A.in1 X.stack s H ⟨[.ref a, v], []⟩ [.ref a, v] [.ref a, x] (fun z H' => ∃ c, z = .bl c ∧ Q (.bl (!c)) H') E (hr.in1.mono hk) I.env0.in1 (by have := b s [.ref a, v] I.kIn rfl; rw [List.append_nil] at this; exact this) (.cons (show RelV (.ref a) (.ref a) from rfl) (.cons rx .nil)) q) fun r s' z => ?_)
  match r, z with
  | .error e, z => exact hx pins σ H s e s' I z
  | .ok (.ret u), z =>
    obtain ⟨v', H', I', r', c, rfl, q'⟩ := I.after z
    cases (show u = Value.bool c from r')
    exact ⟨c, rfl, .bl (!c), H', I', rfl, q'⟩
def negQ (Q : VK) : VK := fun z H' => ∃ c, z = .bl c ∧ Q (.bl (!c)) H'
def rNeQ (r : R2) : R2 := fun x y H Q => r x y H (negQ Q)
theorem neOwn (F : CmpF X.K C) (B : Me X.prog X.w X.K X.mg X.base C "__eq__" k ["self", "other"] sp) (hr : Room (j + 1) X.A) (hx : Passes (L2.CX X.prog X.w) X E) (hk : k ≤ j := by decide) : OpR X (compareOp .NotEq) (rNeQ (rOwn C sp E)) := by
  intro pins s σ H x y v u Q I rx ry h
  obtain ⟨a, dx, fs, rfl, ea, ho, q⟩ := h
  obtain rfl : v = Value.ref a := rx
  obtain ⟨od, J⟩ := ins_inst I.hok ea
  obtain ⟨tb, L, nf⟩ := oth_looks F I ry ho
  show wpAny _ _ (richCompare .NotEq _ _) _ _ _
  exact cmp_first hr.units0 I.kIn J L nf rfl (ask_ne F B hr hx hk I ry ea q)
end
structure MeK (P : Program) (w : World) (K : PySem.W.Frag) (mg : Str → Option Value) (base : Heap) (C : Addr) (m : Str) (k : Nat) (sp : Sp) : Prop where
  ex : ∃ (f : Addr) (fd : FuncData), Meth K C m f ∧ FnOk P w K mg base (L2.CX P w) k f fd ["self"] sp ∧ L2.Binds K fd ["self"] []
theorem pe_m0 {X : Cx} {C : Addr} {k j : Nat} {sp : Sp} {E : XK} {m : Str} {o : Expr} {ta : TE} {apos pos : Pos} {pl : Sem Bool} (B : MeK X.prog X.w X.K X.mg X.base C m k sp) (c : Cls X.K C) (hr : Room j X.A) (hx : Passes (L2.CX X.prog X.w) X E) (he : PE X o ta) (hk : k ≤ j := by decide)
    (ht : eval (.Call (.Attribute o m apos) [] [] pos) X.env = (do
      let ov ← eval o X.env
      standAt apos.atName
      let (f, first) ← holding [ov] (getMethod ov m pl)
      callWith pos f first (backTo pos (starEach [] X.env)) (backToKw pos (keywordEach [] X.env))) := by rfl) : PE X (.Call (.Attribute o m apos) [] [] pos) (tMeth C m sp [] E ta tNil) := by
  obtain ⟨f, fd, h1, G, b⟩ := B.ex
  exact pe_meth0 he c h1 G (hr.mono hk) b .nil hx ht
end L3
end
section
namespace L3
open PySem PySem.Spec PyProof.Rows L2 LamX
section
variable {C CB : Addr} {H H' : Hp} {Q : VK} {x y : V} {o u o' u' : Int} {E : XK}
theorem Rz.ex {g : Str} {v : V} (h : Rz C g v H E) (e : Ex H H') : Rz C g v H' E := fun d H2 hd e2 hx => h d H2 (e.free hd) (e.trans e2) hx
end
end L3
end
section
namespace L3
open PySem PySem.Spec PyProof.Rows L2 LamX
end L3
end
section
namespace L3
open PySem PySem.Spec PySem.Calls PyProof.Rows PySem.W
open PySem.MeetsSeq2
open PySem.AutoSeq1 (wpAny_loadPart')
end L3
namespace L3
open PySem PySem.Spec PyProof.Rows L2 LamX L2H
end L3
end
section
namespace L3
open PySem PySem.Spec PyProof.Rows L2 LamX ClX
end L3
end
section
namespace L3
open PySem PySem.Spec PyProof.Rows L2 LamX L2H
end L3
end
section
namespace L3
open PySem PySem.Spec PyProof.Rows L2 LamX
section
variable {C CB : Addr} {H H' : Hp} {Q : VK} {E : XK}
/-- no integer: another value or a fraction -/
def OdR (C : Addr) (H : Hp) (x : V) : Prop := (∃ t, Od H x t) ∨ ∃ q o u, x = .ref q ∧ Rt C H q o u
theorem OdR.exN {x : V} (h : OdR C H x) (e : ExtN H H') : OdR C H' x := by
  rcases h with ⟨t, h⟩ | ⟨q, o, u, rfl, h⟩
  · exact .inl ⟨t, h.exN e⟩
  · exact .inr ⟨q, o, u, rfl, h.exN e⟩
end
end L3
end
section
namespace L3
open PySem PySem.Spec PyProof.Rows L2 LamX
section
variable {K : PySem.W.Frag} {C CB : Addr} {H H' : Hp} {Q : VK} {E : XK}
theorem kit_lt {a : String} {b1 b2 : Bool} (h1 : kitB a "list" = some b1) (h2 : kitB a "tuple" = some b2) : PySem.W.kitAny K (.type a) [.type "list", .type "tuple"] = some (b1 || b2) := by
  have e1 := kit_ty (K := K) h1
  have e2 := kit_ty (K := K) h2
  unfold PySem.W.kitAny
  unfold PySem.W.kitAny
  unfold PySem.W.kitAny
  rw [e1, e2]
  cases b1 <;> cases b2 <;> rfl
inductive Nms (C : Addr) (H : Hp) : List V → List (Int × Int) → Prop
  | nil : Nms C H [] []
  | cons {v : V} {vs : List V} {q : Int × Int} {qs : List (Int × Int)} : Nm C H v q.1 q.2 → Bd q.1 q.2 → Nms C H vs qs → Nms C H (v :: vs) (q :: qs)
theorem Nm.ex' {v : V} {o u : Int} (h : Nm C H v o u) (e : Ex H H') : Nm C H' v o u := by
  rcases h with ⟨q, rfl, r⟩ | h
  · exact .inl ⟨q, rfl, r.ex e⟩
  · exact .inr h
theorem Nms.ex {vs : List V} {qs : List (Int × Int)} (h : Nms C H vs qs) (e : Ex H H') : Nms C H' vs qs := by
  induction h with
  | nil => exact .nil
  | cons a b _ ih => exact .cons (a.ex' e) b ih
theorem Nms.length {vs : List V} {qs : List (Int × Int)} (h : Nms C H vs qs) : vs.length = qs.length := by
  induction h with
  | nil => rfl
  | cons _ _ _ b => simp [b]
/-- no list, no tuple; or an empty one -/
inductive NoLT (H : Hp) : V → Prop
  | non : NoLT H .non
  | bl (b : Bool) : NoLT H (.bl b)
  | int (i : Int) : NoLT H (.int i)
  | str (z : Str) : NoLT H (.str z)
  | dic {p : Addr} {kvs : List (Key × V)} : H p = some (.dK kvs) → NoLT H (.ref p)
theorem NoLT.ty {v : V} (h : NoLT H v) : ∃ t, TyX K H v t ∧ PySem.W.kitAny K t [.type "list", .type "tuple"] = some false := by
  cases h with
  | non => exact ⟨_, .base .non, kit_lt (b1 := false) (b2 := false) (by decide +kernel) (by decide +kernel)⟩
  | bl b => exact ⟨_, .base (.bl b), kit_lt (b1 := false) (b2 := false) (by decide +kernel) (by decide +kernel)⟩
  | int b => exact ⟨_, .base (.int b), kit_lt (b1 := false) (b2 := false) (by decide +kernel) (by decide +kernel)⟩
  | str b => exact ⟨_, .base (.str b), kit_lt (b1 := false) (b2 := false) (by decide +kernel) (by decide +kernel)⟩
  | dic h => exact ⟨_, .base (.dK h), kit_lt (b1 := false) (b2 := false) (by decide +kernel) (by decide +kernel)⟩
theorem NoLT.ex {v : V} (h : NoLT H v) (e : Ex H H') : NoLT H' v := by
  cases h with
  | non => exact .non
  | bl b => exact .bl b
  | int b => exact .int b
  | str b => exact .str b
  | dic h => exact .dic (e _ _ h)
variable {g : TG} {tb : TS} {D : Ends} {σ : L2.St} {tl : TE}
end
end L3
end
section
namespace L3
open PySem PySem.Spec PyProof.Rows L2 LamX
end L3
end
section
namespace L3
open PySem PySem.Spec PyProof.Rows L2 LamX
section
variable {K : PySem.W.Frag} {σ : L2.St} {H H' : Hp} {Q : VK} {C CB : Addr}
inductive Vl (H : Hp) : V → Str → Prop
  | od {v : V} {t : Str} : Od H v t → Vl H v t
  | int (i : Int) : i.natAbs.log2 < 1920 → (PyData.int i).shown.length ≤ 1001 → Vl H (.int i) (PyData.int i).shown
  | d12 {p : Addr} : H p = some (.dK [(.inl 1, .int 2)]) → Vl H (.ref p) (PyData.dict [(.int 1, .int 2)]).shown
theorem Vl.exN {v : V} {t : Str} (h : Vl H v t) (e : ExtN H H') : Vl H' v t := by
  cases h with
  | od h => exact .od (h.exN e)
  | int i h2 h3 => exact .int i h2 h3
  | d12 h => exact .d12 (e _ _ h fun _ z => nomatch z)
theorem Vl.ex {v : V} {t : Str} (h : Vl H v t) (e : Ex H H') : Vl H' v t := h.exN e.n
theorem Vl.keep {p : Addr} {v : V} {t : Str} (h : Vl H v t) (hn : v ≠ .ref p) (k : ∀ b o, b ≠ p → H b = some o → H' b = some o) : Vl H' v t := by
  cases h with
  | od h => exact .od (h.keep hn k)
  | int i h2 h3 => exact .int i h2 h3
  | d12 h => exact .d12 (k _ _ (fun z => hn (by rw [z])) h)
/-- the heard pairs -/
inductive Hrd (H : Hp) : List V → List Str → Prop
  | nil : Hrd H [] []
  | cons {r : Addr} {vs : List V} {t : Str} {ts : List Str} : H r = some (.tup [.str "ratio", .str t]) → Hrd H vs ts → Hrd H (.ref r :: vs) (t :: ts)
theorem Hrd.exN {vs : List V} {ts : List Str} (h : Hrd H vs ts) (e : ExtN H H') : Hrd H' vs ts := by
  induction h with
  | nil => exact .nil
  | cons a _ b => exact .cons (e _ _ a fun _ z => nomatch z) b
theorem Hrd.length {vs : List V} {ts : List Str} (h : Hrd H vs ts) : vs.length = ts.length := by
  induction h with
  | nil => rfl
  | cons _ _ b => simp [b]
/-- so far heard: the list l; what is known of some values; the pen -/
structure Sy (Tt : List (Addr × Str)) (l p : Addr) (n : Nat) (Pv : Hp → Prop) (H : Hp) (xs : List V) (ts : List Str) : Prop where
  lst : H l = some (.lst xs)
  els : Hrd H xs ts
  pv : Pv H
  wo : Wo Tt H p n
  few : xs.length ≤ 1000
structure Clo (l : Addr) (Pv : Hp → Prop) : Prop where
  ext : ∀ H H', Pv H → ExtN H H' → Pv H'
  upd : ∀ H zs, Pv H → Pv (upd H l (.lst zs))
theorem Sy.exN {Tt : List (Addr × Str)} {l p : Addr} {n : Nat} {Pv : Hp → Prop} {xs : List V} {ts : List Str} (S : Sy Tt l p n Pv H xs ts) (c : Clo l Pv) (e : ExtN H H') (t : Tabs Tt H') : Sy Tt l p n Pv H' xs ts :=
  ⟨e _ _ S.lst (fun _ z => nomatch z), S.els.exN e, c.ext _ _ S.pv e, S.wo.exN e t, S.few⟩
/-- no list or tuple of numbers -/
def Lt (H : Hp) (v : V) : Prop := NoLT H v ∨ ∃ a, v = .ref a ∧ (H a = some (.lst []) ∨ H a = some (.tup []))
theorem Lt.map {v : V} {G : Hp} (h : Lt H v) (f : ∀ a o, v = .ref a → H a = some o → (∀ ps, o ≠ .tbl ps) → G a = some o) : Lt G v := by
  rcases h with h | ⟨a, rfl, h⟩
  · cases h with
    | non => exact .inl .non
    | bl b => exact .inl (.bl b)
    | int i => exact .inl (.int i)
    | str z => exact .inl (.str z)
    | dic h => exact .inl (.dic (f _ _ rfl h fun _ z => nomatch z))
  · exact .inr ⟨a, rfl, h.imp (fun h => f _ _ rfl h fun _ z => nomatch z) (fun h => f _ _ rfl h fun _ z => nomatch z)⟩
theorem Lt.exN {v : V} (h : Lt H v) (e : ExtN H H') : Lt H' v := h.map fun a o _ h n => e a o h n
theorem Lt.keep {p : Addr} {v : V} (h : Lt H v) (hn : v ≠ .ref p) (k : ∀ b o, b ≠ p → H b = some o → H' b = some o) : Lt H' v := h.map fun a o e h _ => k a o (fun z => hn (by rw [e, z])) h
end
end L3
end
section
namespace L3
open PySem PySem.Spec PyProof.Rows L2 LamX ClX
def Rz2 (C : Addr) (g g2 : Str) (v v2 : V) (H : Hp) (E : XK) : Prop := ∀ d H', H d = none → Ex H H' → H' d = some (.xd [(g2, v2), (g, v)]) → E (.ref C) (some d) H'
theorem Rz2.ex {C : Addr} {g g2 : Str} {v v2 : V} {H H' : Hp} {E : XK} (h : Rz2 C g g2 v v2 H E) (e : Ex H H') : Rz2 C g g2 v v2 H' E := fun d H2 hd e2 hx => h d H2 (e.free hd) (e.trans e2) hx
end L3
end
section
namespace L3
open PySem PySem.Spec PySem.Calls PyProof.Rows PySem.W PySem.TypeEq
end L3
namespace L3
open PySem PySem.Spec PyProof.Rows L2 LamX
/-- two functions made by lambdas -/
def FnAt (H : Hp) (f : Addr) : Prop := H f = some (FnV f)
theorem FnAt.exN {H H' : Hp} {f : Addr} (h : FnAt H f) (e : ExtN H H') : FnAt H' f := e _ _ h fun _ z => by unfold FnV at z; cases z
/-- own ==, ours first; the other one of any class that does not come first -/
def OthD (K : PySem.W.Frag) (C : Addr) (y : V) (H : Hp) : Prop := OthV C y H ∨ ∃ D b dx fs, y = .ref b ∧ H b = some (.ins D dx fs) ∧ PySem.W.notFirst K C (.ref D) = true
theorem othD_looks {X : Cx} {C : Addr} {pins : List (Addr × Obj)} {σ : L2.St} {H : Hp} {s : Shared} {y : V} {u : Value} (F : CmpF X.K C) (I : Inv X pins σ H s) (r : RelV y u) (h : OthD X.K C y H) : ∃ tb, PySem.W.Looks (model X.prog X.w) s.heap (typeOf u) tb ∧ PySem.W.notFirst X.K C tb = true := by
  rcases h with h | ⟨D, b, dx, fs, rfl, e, nf⟩
  · exact oth_looks F I r h
  · obtain rfl : u = Value.ref b := r
    obtain ⟨od, J⟩ := ins_inst I.hok e
    exact ⟨_, J.type, nf⟩
end L3
end
section
namespace L3
open PySem PySem.Spec PyProof.Rows L2 LamX
/-- a number within, or anything else -/
def InB (v : V) (a b : Int) : Prop := ∃ i, v = .int i ∧ a ≤ i ∧ i ≤ b
def OutB (H : Hp) (v : V) (a b : Int) : Prop := (∃ t, Od H v t) ∨ ∃ i, v = .int i ∧ ¬ (a ≤ i ∧ i ≤ b)
theorem OutB.exN {H H' : Hp} {v : V} {a b : Int} (h : OutB H v a b) (e : ExtN H H') : OutB H' v a b := h.imp (fun ⟨t, h⟩ => ⟨t, h.exN e⟩) id
/-- a number or another value -/
def Kv (H : Hp) (v : V) : Prop := (∃ i, v = .int i) ∨ ∃ t, Od H v t
theorem Kv.exN {H H' : Hp} {v : V} (h : Kv H v) (e : ExtN H H') : Kv H' v := h.imp id fun ⟨t, h⟩ => ⟨t, h.exN e⟩
theorem Kv.ex {H H' : Hp} {v : V} (h : Kv H v) (e : Ex H H') : Kv H' v := h.exN e.n
theorem Kv.keep {H H' : Hp} {p : Addr} {v : V} (h : Kv H v) (hn : v ≠ .ref p) (k : ∀ b o, b ≠ p → H b = some o → H' b = some o) : Kv H' v := h.imp id fun ⟨t, h⟩ => ⟨t, h.keep hn k⟩
def fxF (i : Int) (t : Addr) : List (Str × V) := putF "modulus" (.int 1) (putF "parts" (.ref t) (putF "size" (.int i) []))
def Fx (C : Addr) (H : Hp) (q : Addr) (i : Int) : Prop := ∃ dx t, H q = some (.ins C dx (fxF i t)) ∧ H t = some (.tup [.ref q])
def dvF (x y w : Int) (t : Addr) : List (Str × V) := putF "modulus" (.int w) (putF "parts" (.ref t) (putF "w" (.int w) (putF "y" (.int y) (putF "x" (.int x) []))))
def Dv (C : Addr) (H : Hp) (q : Addr) (x y w : Int) : Prop := ∃ dx t, H q = some (.ins C dx (dvF x y w t)) ∧ H t = some (.tup [.ref q])
def byF (f t : Addr) : List (Str × V) := putF "modulus" (.int 1) (putF "parts" (.ref t) (putF "function" (.ref f) []))
def Byr (C : Addr) (H : Hp) (q f : Addr) : Prop := ∃ dx t, H q = some (.ins C dx (byF f t)) ∧ H t = some (.tup [])
section
variable {C CS CR : Addr} {H H' : Hp} {Q : VK} {E : XK}
theorem Fx.exN {q : Addr} {i : Int} (h : Fx C H q i) (e : ExtN H H') : Fx C H' q i := by
  obtain ⟨dx, t, a, b⟩ := h
  exact ⟨dx, t, e _ _ a (fun _ z => nomatch z), e _ _ b (fun _ z => nomatch z)⟩
theorem Fx.ex {q : Addr} {i : Int} (h : Fx C H q i) (e : Ex H H') : Fx C H' q i := h.exN e.n
theorem Dv.exN {q : Addr} {x y w : Int} (h : Dv C H q x y w) (e : ExtN H H') : Dv C H' q x y w := by
  obtain ⟨dx, t, a, b⟩ := h
  exact ⟨dx, t, e _ _ a (fun _ z => nomatch z), e _ _ b (fun _ z => nomatch z)⟩
theorem Dv.ex {q : Addr} {x y w : Int} (h : Dv C H q x y w) (e : Ex H H') : Dv C H' q x y w := h.exN e.n
theorem Byr.exN {q f : Addr} (h : Byr C H q f) (e : ExtN H H') : Byr C H' q f := by
  obtain ⟨dx, t, a, b⟩ := h
  exact ⟨dx, t, e _ _ a (fun _ z => nomatch z), e _ _ b (fun _ z => nomatch z)⟩
def WrD (H : Hp) (a b c : V) (z : Str) : Prop := (OutB H a 0 24 ∧ z = "x") ∨ (InB a 0 24 ∧ OutB H b (-1000) 1000 ∧ z = "y") ∨ (InB a 0 24 ∧ InB b (-1000) 1000 ∧ OutB H c 1 24 ∧ z = "w")
theorem WrD.exN {a b c : V} {z : Str} (h : WrD H a b c z) (e : ExtN H H') : WrD H' a b c z := by
  rcases h with ⟨h, r⟩ | ⟨i, h, r⟩ | ⟨i, j, h, r⟩
  · exact .inl ⟨h.exN e, r⟩
  · exact .inr (.inl ⟨i, h.exN e, r⟩)
  · exact .inr (.inr ⟨i, j, h.exN e, r⟩)
end
end L3
end
section
namespace L3
open PySem PySem.Spec PyProof.Rows L2 LamX
section
variable {K : PySem.W.Frag} {σ : L2.St} {H H' : Hp} {Q : VK} {C CR CS CF CD : Addr}
theorem sh2 {a b : Str} (ha : PyData.strOk a = true) (hb : PyData.strOk b = true) : SeqAt.shaped (.tuple [.str a, .str b]) = true := by
  unfold SeqAt.shaped; simp only [PyData.canLay0, PyData.canLayAll0, ha, hb]; rfl
/-- the list of other values -/
def OddL (H : Hp) (l : Addr) : Prop := ∃ t e d, H l = some (.lst [.non, .bl true, .str "1", .ref t, .ref e, .ref d, .bl false]) ∧ H t = some (.tup [.int 1]) ∧ H e = some (.lst []) ∧ H d = some (.dK [])
theorem OddL.ex {l : Addr} (h : OddL H l) (e : Ex H H') : OddL H' l := by
  obtain ⟨t, a, d, h1, h2, h3, h4⟩ := h
  exact ⟨t, a, d, e _ _ h1, e _ _ h2, e _ _ h3, e _ _ h4⟩
theorem OddL.keep {l p : Addr} {n : Nat} (h : OddL H l) (hp : Pen H p n) (k : ∀ b o, b ≠ p → H b = some o → H' b = some o) : OddL H' l := by
  obtain ⟨t, a, d, h1, h2, h3, h4⟩ := h
  have nn : ∀ {q : Addr} {o : HO}, H q = some o → (∀ c n, o ≠ PenO p c n) → H' q = some o := fun {q o} e z => k _ _ (hp.ne e z) e
  exact ⟨t, a, d, nn h1 (fun c n z => by unfold PenO at z; cases z), nn h2 (fun c n z => by unfold PenO at z; cases z), nn h3 (fun c n z => by unfold PenO at z; cases z), nn h4 (fun c n z => by unfold PenO at z; cases z)⟩
theorem Byr.ex {q f : Addr} (h : Byr C H q f) (e : Ex H H') : Byr C H' q f := h.exN e.n
theorem FnAt.ex {f : Addr} (h : FnAt H f) (e : Ex H H') : FnAt H' f := h.exN e.n
end
end L3
end
section
namespace L3
open PySem PySem.Spec PySem.HandSPX
end L3
end
section
namespace L3
open PySem PySem.Spec PyProof.Rows L2 LamX
def LamF (f : Addr) (q : Str) (params : Arguments) (body : Expr) (scope : Scope) (c' : Addr) : HO := .ext fun h => ∃ pm ctv, h.get? f = some (PySem.W.kla_obj "<lambda>" q params body scope [] pm c' ctv)
theorem lamF_ok {P : Program} {w : World} {H : Hp} {h : Heap} {f c' : Addr} {q : Str} {params : Arguments} {body : Expr} {scope : Scope} {pm ctv : Value} (e : h.get? f = some (PySem.W.kla_obj "<lambda>" q params body scope [] pm c' ctv)) : ObjOk P w H h f (LamF f q params body scope c') :=
  ⟨⟨pm, ctv, e⟩, ⟨_, e⟩, fun _ _ ⟨pm, ctv, q⟩ k => ⟨pm, ctv, k _ q⟩⟩
theorem clo_nil (cells : List (Str × Addr)) : ∀ (ns : List (Str × NameKind)) (acc : List (Str × Addr)), (∀ y ∈ ns, y.2 ≠ .free) → cloFrom cells ns acc = acc
  | [], _, _ => rfl
  | (n, k) :: r, acc, h => by
    have hk : (k == NameKind.free) = false := by
      cases k with
      | free => exact absurd rfl (h (n, .free) List.mem_cons_self)
      | _ => rfl
    show (if (k == NameKind.free) = true then _ else cloFrom cells r acc) = acc
    rw [hk, if_neg Bool.false_ne_true]
    exact clo_nil cells r acc fun y hy => h y (List.mem_cons_of_mem _ hy)
def tLamF (T : List (Addr × Str)) (q : Str) (params : Arguments) (body : Expr) (scope : Scope) : TE := fun _ H Q => Tabs T H ∧ ∀ f c' H1, H f = none → ExtN H H1 → Tabs T H1 → H1 f = some (LamF f q params body scope c') → H1 c' = some (CodeO c' q) → ap Q (.ref f) H1
theorem pe_lamF {X : Cx} {T : List (Addr × Str)} {c P : Addr} {params : Arguments} {body : Expr} {scope : Scope} {pos : Pos} (TB : TabB X.base X.mg c P) (hcode : X.env.code = .ref c) (hm : (P, X.env.qual ++ "<lambda>") ∈ T)
    (hu : ∀ p ∈ T, p.1 = P → p.2 = X.env.qual ++ "<lambda>") (hdef : defaultsOf params X.env = ([], [])) (hfree : ∀ y ∈ scope.names, y.2 ≠ .free) : PE X (.Lambda params body scope pos) (tLamF T (X.env.qual ++ "<lambda>") params body scope) := by
  constructor
  intro pins s σ H Q I h
  obtain ⟨hT, k⟩ := h
  obtain ⟨ps, hP, ht, ha⟩ := hT _ hm
  have hfr : ∀ y ∈ scope.names, y.2 = .free → ∃ c, X.env.cells.lookup y.1 = some c := fun y hy e => absurd e (hfree y hy)
  have hcl : closureFor scope X.env = pure [] := by rw [closure_ok hfr, clo_nil _ _ _ hfree]
  refine PySem.W.kla_eval hdef ?_
  have bP : s.heap.BuiltinsAt X.mg P := TB.bm.keeps I.bk
  have hP' : s.heap.get? P = some { cls := .none, data := .fields ps } := I.hok P _ hP
  cases hc : codeAmong pos ps.toList with
  | none =>
    refine PySem.W.kla_makeFunction (mg := X.mg) (c := c) (P := P) (ps := ps) hcl I.ok.glob (I.mod.glob.keeps I.bk) hcode (TB.code.keeps I.bk) hP' ht hc TB.gP bP fun c' ctv h' tk hx hge hlt hrec htb => ?_
    obtain ⟨c2, oc, vs, t, e2, hoc, hd, hv⟩ := hrec
    cases e2
    have hsz : s.heap.objs.size ≤ h'.objs.size := Nat.le_trans hge (Nat.le_of_lt hlt)
    have nC : H c' = none := I.hok.fresh hge
    have I1 : Inv X pins σ _ { s with heap := h', toks := tk } := inv_table (t' := tk) (more := #[rawInt pos.line, rawInt pos.col, .ref c']) I hP hx htb hge ⟨oc, vs, t, hoc, hd, hv⟩
    generalize hH1 : upd (upd H P (.tbl (ps ++ #[rawInt pos.line, rawInt pos.col, .ref c']))) c' (CodeO c' (X.env.qual ++ "<lambda>")) = H1 at I1
    have nPc : P ≠ c' := ne_of_none hP nC
    have eN : ExtN H H1 := fun b o e n => by
      rw [← hH1, upd_ne (ne_of_none e nC), upd_ne (fun z => n ps (Option.some.inj (e.symm.trans (by rw [z]; exact hP))))]
      exact e
    have T1 : Tabs T H1 := fun p hp => by
      by_cases hb : p.1 = P
      · rw [hu p hp hb, hb]
        refine ⟨ps ++ #[rawInt pos.line, rawInt pos.col, .ref c'], by rw [← hH1, upd_ne nPc, upd_same], by simp only [Array.toList_append]; exact PySem.TriplesOk_snoc _ _ _ _ ht, fun p' v hv => ?_⟩
        simp only [Array.toList_append] at hv
        rcases among_app _ ht hv with z | z
        · obtain ⟨c0, e1, e2⟩ := ha p' v z
          exact ⟨c0, e1, eN _ _ e2 codeO_ne⟩
        · exact ⟨c', z, by rw [← hH1]; exact upd_same⟩
      · obtain ⟨qs, a1, a2, a3⟩ := hT p hp
        refine ⟨qs, by rw [← hH1, upd_ne (ne_of_none a1 nC), upd_ne hb]; exact a1, a2, fun p' v hv => ?_⟩
        obtain ⟨c0, e1, e2⟩ := a3 p' v hv
        exact ⟨c0, e1, eN _ _ e2 codeO_ne⟩
    have nf : H1 h'.objs.size = none := I1.hok.fresh (Nat.le_refl _)
    have I2 := I1.laid (t' := tk) (h' := h'.push (PySem.W.kla_obj "<lambda>" (X.env.qual ++ "<lambda>") params body scope [] ((X.mg "__name__").getD .none) c' ctv)) (a := h'.objs.size) (o := LamF h'.objs.size (X.env.qual ++ "<lambda>") params body scope c')
      (fun b o e => Heap.get?_push_of_some _ e) (Nat.le_refl _) (lamF_ok (Heap.get?_push_size _ rfl))
    exact ⟨.ref h'.objs.size, _, I2, rfl, k _ c' _ (I.hok.fresh hsz) (eN.trans (.of (ex_new nf))) (Tabs.up T1 nf) upd_same (by rw [upd_ne (ne_of_none (by rw [← hH1]; exact upd_same) nf), ← hH1]; exact upd_same)⟩
  | some cv =>
    obtain ⟨c', e, hco⟩ := ha pos cv hc
    subst e
    refine PySem.W.kla_makeFunctionHit (mg := X.mg) (c := c) (P := P) (ps := ps) hcl I.ok.glob (I.mod.glob.keeps I.bk) hcode (TB.code.keeps I.bk) hP' ht hc bP fun ctv h' tk hx hsz => ?_
    have I1 : Inv X pins σ H { s with heap := h', toks := tk } := I.kept hx
    have nf : H h'.objs.size = none := I.hok.fresh hsz
    have I2 := I1.laid (t' := tk) (h' := h'.push (PySem.W.kla_obj "<lambda>" (X.env.qual ++ "<lambda>") params body scope [] ((X.mg "__name__").getD .none) c' ctv)) (a := h'.objs.size) (o := LamF h'.objs.size (X.env.qual ++ "<lambda>") params body scope c')
      (fun b o e => Heap.get?_push_of_some _ e) (Nat.le_refl _) (lamF_ok (Heap.get?_push_size _ rfl))
    exact ⟨.ref h'.objs.size, _, I2, rfl, k _ c' _ nf (.of (ex_new nf)) (Tabs.up hT nf) upd_same (by rw [upd_ne (ne_of_none hco nf)]; exact hco)⟩
theorem lam_run {P : Program} {w : World} {K : PySem.W.Frag} {mg : Str → Option Value} {base : Heap} {CX : CXT} {k : Nat} {f c' : Addr} {q : Str} {params : Arguments} {body : Expr} {scope : Scope} {pm ctv : Value} {N ps : List Str} {A : Around} {outer : List Env} {s : Shared} {H : Hp} {args : Args} {us : List Value} {vs : List V} {Q : VK} {E : XK}
    (of1 : s.heap.get? f = some (PySem.W.kla_obj "<lambda>" q params body scope [] pm c' ctv)) (hcr : s.heap.CodeRec (.ref c') q) (S : FnScope N ps scope) (hr : Room (k + 1) A) (e0 : Env0 P w K mg base A outer s H)
    (hb : bindArgs (PySem.W.kla_fn "<lambda>" q params body scope [] pm (.ref c') ctv) args = pure (ps.zip us)) (r : Vals vs us) (hl : vs.length = ps.length)
    (hbody : Room k (A.deeper (envOfC q scope s.heap.objs.size f (.ref c'))) → ∃ t, PE (cxOf CX P w K mg base N q scope f (.ref c') A outer s H E) body t ∧ t (L2.start N vs) H Q) :
    codeAny (model P w) A (.call (.ref f) args) (CR CX outer P w H s Q E) s := by
  have lim : s.heap.NoLimit := e0.mod.nolimit.keeps fun b o e => (e0.bs b o e).1
  have hkind : ∀ y ∈ ps.zip us, scope.names.lookup y.1 = some .local ∨ (scope.names.lookup y.1 = some .cell ∧ ((cellsFrom (s.heap.objs.size + 1) scope.names []).lookup y.1).isSome = true) := fun ⟨n, v⟩ hy => (S.par n (List.of_mem_zip hy).1).imp id fun q => ⟨q, PySem.W.cellsFrom_some _ _ _ (.inl q)⟩
  refine PySem.W.kla_callFunE hr.depth of1 rfl S.co S.gen rfl hcr ?_
  rw [hb]
  refine wpAny_pure (wpAny_newFunctionEnv_cells S.kind hkind fun env he s1 x => ?_)
  subst he
  refine ⟨lim.keeps x.toInCall.keep, ?_⟩
  obtain ⟨t, ht, hq⟩ := hbody (hr.deeper _)
  have I : Inv (cxOf CX P w K mg base N q scope f (.ref c') A outer s H E) [] (L2.start N vs) H s1 := inv_start S hr.hd e0 hl r x
  refine PySem.W.kla_codeExpr (wpAny_mono (ht.run [] s1 (L2.start N vs) H Q I hq) (fun v s' hs => ?_) fun e s' hs => hs)
  obtain ⟨v', H', J, rv, q⟩ := hs
  exact ⟨v', H', J.os, J.bare, J.base, J.hok, rv, q⟩
/-- what is promised of such a lambda, wherever it is called -/
structure Lam1 (P : Program) (w : World) (K : PySem.W.Frag) (mg : Str → Option Value) (base : Heap) (k : Nat) (x : Str) (q : Str) (params : Arguments) (body : Expr) (scope : Scope) (sp : Sp) : Prop where
  bind : ∀ (pm cv ctv u : Value), bindArgs (PySem.W.kla_fn "<lambda>" q params body scope [] pm cv ctv) ⟨[u], []⟩ = pure [(x, u)]
  sc : FnScope [x] [x] scope
  body : ∀ (A : Around) (outer : List Env) (s : Shared) (H : Hp) (E : XK) (f c' : Addr) (v : V) (Q : VK), Room k (A.deeper (envOfC q scope s.heap.objs.size f (.ref c'))) → sp [v] H Q E → ∃ t, PE (cxOf CX0 P w K mg base [x] q scope f (.ref c') A outer s H E) body t ∧ t [some v] H Q
def LamAt (P : Program) (w : World) (K : PySem.W.Frag) (mg : Str → Option Value) (base : Heap) (k : Nat) (H : Hp) (f : Addr) (sp : Sp) : Prop :=
  ∃ (x q : Str) (params : Arguments) (body : Expr) (scope : Scope) (c' : Addr), H f = some (LamF f q params body scope c') ∧ H c' = some (CodeO c' q) ∧ Lam1 P w K mg base k x q params body scope sp
theorem LamAt.exN {P : Program} {w : World} {K : PySem.W.Frag} {mg : Str → Option Value} {base : Heap} {k : Nat} {H H' : Hp} {f : Addr} {sp : Sp} (h : LamAt P w K mg base k H f sp) (e : ExtN H H') : LamAt P w K mg base k H' f sp := by
  obtain ⟨x, q, params, body, scope, c', h1, h2, h3⟩ := h
  exact ⟨x, q, params, body, scope, c', e _ _ h1 (fun _ z => by unfold LamF at z; cases z), e _ _ h2 codeO_ne, h3⟩
theorem LamAt.keep {P : Program} {w : World} {K : PySem.W.Frag} {mg : Str → Option Value} {base : Heap} {k : Nat} {H H' : Hp} {f : Addr} {sp : Sp} (h : LamAt P w K mg base k H f sp) (e : ∀ b o, H b = some o → (∃ f q a b s c, o = LamF f q a b s c) ∨ (∃ c q, o = CodeO c q) → H' b = some o) : LamAt P w K mg base k H' f sp := by
  obtain ⟨x, q, params, body, scope, c', h1, h2, h3⟩ := h
  exact ⟨x, q, params, body, scope, c', e _ _ h1 (.inl ⟨_, _, _, _, _, _, rfl⟩), e _ _ h2 (.inr ⟨_, _, rfl⟩), h3⟩
def tCallF (P : Program) (w : World) (K : PySem.W.Frag) (mg : Str → Option Value) (base : Heap) (k : Nat) (tf : TE) (ta : TA) : TE := fun σ H Q =>
  tf σ H fun fv H1 => ∃ (f : Addr) (sp : Sp), fv = .ref f ∧ LamAt P w K mg base k H1 f sp ∧ ta σ H1 fun vs H2 => ∃ v, vs = [v] ∧ LamAt P w K mg base k H2 f sp ∧ sp [v] H2 Q (fun _ _ _ => False)
theorem pe_callF {X : Cx} {k j : Nat} {fe e : Expr} {tf : TE} {ta : TA} {pos : Pos} (hr : Room j X.A) (hf : PE X fe tf) (ha : PA X [e] ta) (hk : k + 1 ≤ j := by decide)
    (harm : eval (.Call fe [e] [] pos) X.env = (do callWith pos (← eval fe X.env) [] (backTo pos (starEach [e] X.env)) (backToKw pos (keywordEach [] X.env))) := by rfl)
    (he : starEach [e] X.env = (false, eval e X.env) :: starEach [] X.env := by rfl) (hpl : (backTo pos (starEach [] X.env)).any (·.1) = false := by rfl) :
    PE X (.Call fe [e] [] pos) (tCallF X.prog X.w X.K X.mg X.base k tf ta) := by
  refine ⟨fun pins s σ H Q I h => ?_⟩
  rw [harm]
  refine wpAny_bind (thn (hf.run pins s σ H _ I h) fun fv s1 hh => ?_)
  obtain ⟨v0, H1, I1, r0, f, sp, rfl, la, h1⟩ := hh
  obtain rfl : fv = Value.ref f := r0
  have at1 : ∀ {H1 : Hp} {s1 : Shared}, Inv X pins σ H1 s1 → LamAt X.prog X.w X.K X.mg X.base k H1 f sp → PySem.W.FnAt f s1.heap := fun {H1 s1} I1 la => by
    obtain ⟨x, q, params, body, scope, c', h1, _, _⟩ := la
    obtain ⟨⟨pm, ctv, of1⟩, _⟩ := (show ObjOk X.prog X.w H1 s1.heap f (LamF f q params body scope c') from I1.hok f _ h1)
    exact ⟨_, _, _, _, of1⟩
  refine PySem.W.callWith_F (at1 I1 la) (thn (ha.run pos pins s1 σ H1 _ I1 h1) fun us s2 hh => ?_) he hpl
  obtain ⟨vs, H2, I2, r2, v, rfl, lb, h2⟩ := hh
  obtain ⟨u, rfl, ru⟩ := vals1 r2
  refine ⟨at1 I2 lb, ?_⟩
  obtain ⟨x, q, params, body, scope, c', h3, h4, L⟩ := lb
  obtain ⟨⟨pm, ctv, of1⟩, _⟩ := (show ObjOk X.prog X.w H2 s2.heap f (LamF f q params body scope c') from I2.hok f _ h3)
  obtain ⟨⟨oc, ws, t, hoc, hdc, hvc⟩, _⟩ := (show ObjOk X.prog X.w H2 s2.heap c' (CodeO c' q) from I2.hok c' _ h4)
  refine wpAny_call (codeAny_mono (lam_run (CX := CX0) (E := fun _ _ _ => False) (Q := Q) (N := [x]) (ps := [x]) (us := [u]) (vs := [v]) of1 ⟨c', oc, ws, t, rfl, hoc, hdc, hvc⟩ L.sc (hr.mono hk) I2.env0 (L.bind pm _ ctv u) (.cons ru .nil) rfl fun hr' => L.body _ _ _ _ _ _ _ _ _ hr' h2) fun r s' hq => ?_)
  match r, hq with
  | .error e, hq => exact pass0 pins σ H2 s2 e s' I2 hq
  | .ok (.ret u), hq => exact I2.after hq
end L3
end
section
namespace L3
open PySem PySem.Spec PyProof.Rows L2 LamX
def ErAt (H : Hp) (a C : Addr) (fs : List (Str × V)) : Prop := (∃ d, H a = some (exo a C (some d)) ∧ H d = some (exd d fs)) ∨ (fs = [] ∧ H a = some (exo a C none))
theorem exo_tbl {e C : Addr} {d : Option Addr} : ∀ ps, exo e C d ≠ .tbl ps := fun _ z => by unfold exo at z; cases z
theorem exd_tbl {d : Addr} {fs : List (Str × V)} : ∀ ps, exd d fs ≠ .tbl ps := fun _ z => by unfold exd at z; cases z
theorem ErAt.exN {H H' : Hp} {a C : Addr} {fs : List (Str × V)} (h : ErAt H a C fs) (e : ExtN H H') : ErAt H' a C fs := by
  rcases h with ⟨d, h1, h2⟩ | ⟨h1, h2⟩
  · exact .inl ⟨d, e _ _ h1 exo_tbl, e _ _ h2 exd_tbl⟩
  · exact .inr ⟨h1, e _ _ h2 exo_tbl⟩
def tLstN (t : TA) : TE := fun σ H Q => t σ H fun xs H1 => xs.length ≤ sizeLine ∧ ∀ p, H1 p = none → p ≠ sysModules → ap Q (.ref p) (upd H1 p (.lst xs))
theorem pe_lstN {X : Cx} {es : List Expr} {t : TA} {pos : Pos} (h : PA X es t) : PE X (.List es pos) (tLstN t) := by
  refine ⟨fun pins s σ H Q I hq => ?_⟩
  refine wpAny_List_spliced (thn (h.run pos pins s σ H _ I hq) fun us s1 ⟨xs, H1, I1, r, z, q⟩ => ⟨by rw [← r.length]; exact z, ?_⟩)
  exact ⟨.ref s1.heap.objs.size, upd H1 s1.heap.objs.size (.lst xs), I1.laid (t' := s1.toks) (fun b u e => Heap.get?_push_of_some _ e) (Nat.le_refl _) ⟨z, us, 0, r, Heap.get?_push_size _ rfl⟩, rfl, q _ (I1.hok.fresh (Nat.le_refl _)) (Nat.ne_of_gt I1.big)⟩
def litB : V → Bool
  | .int _ => true
  | .bl _ => true
  | .str _ => true
  | .non => true
  | _ => false
def litD : V → PyData
  | .int i => .int i
  | .bl b => .bool b
  | .str z => .str z
  | _ => .none
theorem readsFlat {h : Heap} : ∀ {xs : List V} {us : List Value}, Vals xs us → xs.all litB = true → ReadsAll h us (xs.map litD) []
  | [], _, r, _ => by cases r; exact .nil
  | x :: xs, _, r, hf => by
    cases r with
    | cons rx rs =>
      rw [List.all_cons, Bool.and_eq_true] at hf
      have ih := readsFlat (h := h) rs hf.2
      have one : ∀ {u : Value}, RelV x u → Reads h u (litD x) [] := fun {u} rx => by
        cases x with
        | int i => obtain ⟨t, rfl⟩ := rx; exact .int i t
        | bl b => cases (show u = Value.bool b from rx); exact .bool b
        | str z => obtain ⟨t, rfl⟩ := rx; exact .str z t
        | non => cases (show u = Value.none from rx); exact .none
        | _ => exact absurd hf.1 (by simp [litB])
      exact .cons (one rx) ih
inductive Vd (H : Hp) : V → PyData → Prop
  | non : Vd H .non .none
  | bl (b : Bool) : Vd H (.bl b) (.bool b)
  | int (i : Int) : Vd H (.int i) (.int i)
  | str (z : Str) : Vd H (.str z) (.str z)
  | tup {p : Addr} {xs : List V} : H p = some (.tup xs) → xs.all litB = true → Vd H (.ref p) (.tuple (xs.map litD))
  | lst {p : Addr} {xs : List V} : H p = some (.lst xs) → p ≠ sysModules → xs.all litB = true → Vd H (.ref p) (.list (xs.map litD))
  | d0 {p : Addr} : H p = some (.dK []) → Vd H (.ref p) (.dict [])
  | d1 {p : Addr} {k v : Str} : H p = some (.dK [(.inr k, .str v)]) → Vd H (.ref p) (.dict [(.str k, .str v)])
theorem Vd.map {H H' : Hp} {v : V} {d : PyData} (h : Vd H v d) (f : ∀ a o, v = .ref a → H a = some o → (∀ ps, o ≠ .tbl ps) → H' a = some o) : Vd H' v d := by
  cases h with
  | non => exact .non
  | bl b => exact .bl b
  | int i => exact .int i
  | str z => exact .str z
  | tup h1 h2 => exact .tup (f _ _ rfl h1 fun _ z => nomatch z) h2
  | lst h1 h2 h3 => exact .lst (f _ _ rfl h1 fun _ z => nomatch z) h2 h3
  | d0 h1 => exact .d0 (f _ _ rfl h1 fun _ z => nomatch z)
  | d1 h1 => exact .d1 (f _ _ rfl h1 fun _ z => nomatch z)
theorem Vd.exN {H H' : Hp} {v : V} {d : PyData} (h : Vd H v d) (e : ExtN H H') : Vd H' v d := h.map fun a o _ h n => e a o h n
theorem Vd.ex {H H' : Hp} {v : V} {d : PyData} (h : Vd H v d) (e : Ex H H') : Vd H' v d := h.exN e.n
theorem Vd.reads {X : Cx} {pins : List (Addr × Obj)} {σ : L2.St} {H : Hp} {s : Shared} {v : V} {d : PyData} {u : Value} (I : Inv X pins σ H s) (h : Vd H v d) (r : RelV v u) : ∃ as, Reads s.heap u d as ∧ sysModules ∉ as := by
  cases h with
  | non => cases (show u = Value.none from r); exact ⟨[], .none, by simp⟩
  | bl b => cases (show u = Value.bool b from r); exact ⟨[], .bool b, by simp⟩
  | int i => obtain ⟨t, rfl⟩ := r; exact ⟨[], .int i t, by simp⟩
  | str z => obtain ⟨t, rfl⟩ := r; exact ⟨[], .str z t, by simp⟩
  | @tup p xs h1 h2 =>
    cases (show u = Value.ref p from r)
    obtain ⟨_, its, rv, o, e1, e2, n, e3⟩ := (show ObjOk X.prog X.w H s.heap p (.tup xs) from I.hok p _ h1)
    exact ⟨[], .tuple e1 e2 e3 (by simpa using readsFlat rv h2), by simp⟩
  | @lst p xs h1 h2 h3 =>
    cases (show u = Value.ref p from r)
    obtain ⟨_, its, n, rv, e1⟩ := (show ObjOk X.prog X.w H s.heap p (.lst xs) from I.hok p _ h1)
    exact ⟨_, .list e1 rfl rfl (by simpa using readsFlat rv h3), by simpa using Ne.symm h2⟩
  | @d0 p h1 =>
    cases (show u = Value.ref p from r)
    obtain ⟨_, hs, vs, kv, hd⟩ := (show ObjOk X.prog X.w H s.heap p (.dK []) from I.hok p _ h1)
    cases kv
    obtain ⟨o, es, ep, e1, ⟨e2, _⟩, e3, _, e4, _⟩ := hd
    have e5 : es.toList = [] := by
      generalize es.toList = l at e4
      cases l with
      | nil => rfl
      | cons a b => cases e4
    exact ⟨_, .dict (as := []) (bs := []) e1 e2 e3 (by rw [e5]; exact .nil) (by rw [e5]; exact .nil), by simpa using Ne.symm (beq_eq_false_iff_ne.mp hs)⟩
  | @d1 p k v h1 =>
    cases (show u = Value.ref p from r)
    obtain ⟨_, hs, vs, kv, hd⟩ := (show ObjOk X.prog X.w H s.heap p (.dK [(.inr k, .str v)]) from I.hok p _ h1)
    obtain ⟨o, es, ep, e1, ⟨e2, _⟩, e3, _, e4, _⟩ := hd
    obtain ⟨k0, v0, rfl, hk0, rv⟩ : ∃ k0 v0, vs = [(k0, v0)] ∧ k0 = .inr k ∧ L2.RelV (.str v) v0 := by
      cases kv with
      | cons rv kv' => cases kv'; exact ⟨_, _, rfl, rv.1.symm, rv.2⟩
    subst hk0
    obtain ⟨e0, he, hk, hv⟩ : ∃ e0 : DictEntry, es.toList = [e0] ∧ (mixKind X.prog X.w).is (.inr k) e0.key = true ∧ e0.val = v0 := by
      generalize es.toList = l at e4
      cases l with
      | nil => cases e4
      | cons e l =>
        generalize hz : [((Sum.inr k : Key), v0)] = z at e4
        cases e4 with
        | cons h1 h2 h3 =>
          cases hz
          cases h3
          exact ⟨e, rfl, h1, h2⟩
    obtain ⟨t1, hk'⟩ : ∃ t1, e0.key = .str k t1 := by
      change keyIs (.inr k) e0.key = true at hk
      rcases keyIs_shape hk with ⟨i, t, z, _⟩ | ⟨x, t, z, z2⟩
      · cases z
      · cases z; exact ⟨t, z2⟩
    obtain ⟨t2, rfl⟩ := rv
    exact ⟨_, .dict (as := []) (bs := []) e1 e2 e3 (by rw [he]; show ReadsAll _ [e0.key] [.str k] []; rw [hk']; exact .cons (.str k t1) .nil) (by rw [he]; show ReadsAll _ [e0.val] [.str v] []; rw [hv]; exact .cons (.str v t2) .nil), by simpa using Ne.symm (beq_eq_false_iff_ne.mp hs)⟩
inductive VdAll (H : Hp) : List V → List PyData → Prop
  | nil : VdAll H [] []
  | cons {v : V} {d : PyData} {vs : List V} {ds : List PyData} : Vd H v d → VdAll H vs ds → VdAll H (v :: vs) (d :: ds)
theorem VdAll.exN {H H' : Hp} {vs : List V} {ds : List PyData} (h : VdAll H vs ds) (e : ExtN H H') : VdAll H' vs ds := by
  induction h with
  | nil => exact .nil
  | cons a _ b => exact .cons (a.exN e) b
theorem VdAll.reads {X : Cx} {pins : List (Addr × Obj)} {σ : L2.St} {H : Hp} {s : Shared} (I : Inv X pins σ H s) : ∀ {vs : List V} {ds : List PyData} {us : List Value}, VdAll H vs ds → Vals vs us → ∃ as, ReadsAll s.heap us ds as ∧ sysModules ∉ as
  | _, _, _, .nil, r => by cases r; exact ⟨[], .nil, by simp⟩
  | _, _, _, .cons a b, r => by
    cases r with
    | cons r1 r2 =>
      obtain ⟨as, h1, h2⟩ := a.reads I r1
      obtain ⟨bs, h3, h4⟩ := VdAll.reads I b r2
      exact ⟨_, .cons h1 h3, fun z => (List.mem_append.mp z).elim h2 h4⟩
def rReprL : List V → Hp → VK → Prop := fun xs H Q => ∃ l vs ds, xs = [.ref l] ∧ H l = some (.lst vs) ∧ l ≠ sysModules ∧ VdAll H vs ds ∧ (PyData.list ds).showable = true ∧ (PyData.list ds).depth ≤ 60 ∧ (PyData.list ds).shown.length ≤ sizeLine ∧ Q (.str (PyData.list ds).shown) H
theorem callReprL {X : Cx} (hg : X.A.guards = some []) (hu : X.A.units + 64 < cLine) : CallR X (.builtin "repr") rReprL := by
  intro pins s σ H xs us Q I r h
  obtain ⟨l, vs, ds, rfl, hl, nl, hv, h1, h2, h3, q⟩ := h
  obtain ⟨u, rfl, rx⟩ := vals1 r
  cases (show u = Value.ref l from rx)
  obtain ⟨_, its, n, rv, e1⟩ := (show ObjOk X.prog X.w H s.heap l (.lst vs) from I.hok l _ hl)
  obtain ⟨as, ra, na⟩ := hv.reads I rv
  have rd : Reads s.heap (.ref l) (.list ds) (l :: as) := .list e1 rfl rfl (by simpa using ra)
  refine repr_of_reads' rd h1 (fun _ z => (List.mem_cons.mp z).elim (fun z => nl z.symm) na) hg (by omega) (fun _ _ e => e) (fun h' t tk k => ?_) h3
  exact ⟨.str _, H, I.kept k, ⟨t, rfl⟩, q⟩
end L3
end
section
namespace L3
open PySem PySem.Spec PyProof.Rows L2 LamX
section
variable {σ : L2.St} {H : Hp} {te : TE} {Q : VK} {K : PySem.W.Frag}
def spTell (K : PySem.W.Frag) (gs : List Str) : Sp := fun xs H Q _ => ∃ a C fs vs, xs = [.ref a] ∧ ErAt H a C fs ∧ XfC K C ∧ (∀ g ∈ gs, PySem.W.findIn K (.ref C) g = some none) ∧ gs.map (fun g => fs.lookup g) = vs.map some ∧ vs.length ≤ 1000 ∧
  ∀ p H', p ≠ sysModules → H p = none → Ex H H' → H' p = some (.lst vs) → Q (.ref p) H'
def spKind (K : PySem.W.Frag) (C : Addr) : Sp := fun xs H Q _ => ∃ a D fs b, xs = [.ref a] ∧ ErAt H a D fs ∧ ExcC K D ∧ PySem.W.kitOne K (.ref D) (.ref C) = some b ∧ Q (.bl b) H
/-- one row: an error, what tells it, what is due, its number -/
def Row (Lm : Hp → Addr → Sp → Prop) (K : PySem.W.Frag) (cs : List Addr) (v1 v2 : V) (H : Hp) (v : V) : Prop := ∃ t e f l j fs gs vs, v = .ref t ∧ H t = some (.tup [.ref e, .ref f, .ref l, .int ((j : Nat) : Int)]) ∧ j < 26 ∧ ErAt H e (cs.getD j 0) fs ∧ Lm H f (spTell K gs) ∧ H l = some (.lst vs) ∧ l ≠ sysModules ∧
  (∀ g ∈ gs, PySem.W.findIn K (.ref (cs.getD j 0)) g = some none) ∧ gs.map (fun g => fs.lookup g) = vs.map some ∧ (∀ x ∈ vs, x = v1 ∨ x = v2) ∧ vs.length ≤ 2
theorem Row.exN {Lm : Hp → Addr → Sp → Prop} (hL : ∀ H H' f sp, Lm H f sp → ExtN H H' → Lm H' f sp) {cs : List Addr} {v1 v2 : V} {H H' : Hp} {v : V} (h : Row Lm K cs v1 v2 H v) (e : ExtN H H') : Row Lm K cs v1 v2 H' v := by
  obtain ⟨t, e0, f, l, j, fs, gs, vs, h1, h2, h3, h4, h5, h6, h7⟩ := h
  exact ⟨t, e0, f, l, j, fs, gs, vs, h1, e _ _ h2 (fun _ z => nomatch z), h3, h4.exN e, hL _ _ _ _ h5 e, e _ _ h6 (fun _ z => nomatch z), h7⟩
end
/-- lists of values shown -/
structure VOk (x : PyData) : Prop where
  s : x.showable = true
  d : x.depth ≤ 3
  l : x.shown.length ≤ 1000
theorem shown_small {ds : List PyData} (h : ∀ d ∈ ds, VOk d) (hl : ds.length ≤ 10) : (PyData.list ds).showable = true ∧ (PyData.list ds).depth ≤ 60 ∧ (PyData.list ds).shown.length ≤ sizeLine := by
  have a1 : PyData.showableAll ds = true ∧ PyData.depthAll ds ≤ 3 ∧ ((PyData.shownAll ds).map fun t => t.length + 2).sum ≤ 1002 * ds.length := by
    clear hl
    induction ds with
    | nil => exact ⟨rfl, Nat.zero_le _, Nat.zero_le _⟩
    | cons d r ih =>
      obtain ⟨i1, i2, i3⟩ := ih fun x hx => h x (List.mem_cons_of_mem _ hx)
      have hd := h d List.mem_cons_self
      refine ⟨?_, ?_, ?_⟩
      · unfold PyData.showableAll; rw [hd.s, i1]; rfl
      · unfold PyData.depthAll; exact Nat.max_le.mpr ⟨hd.d, i2⟩
      · unfold PyData.shownAll
        rw [List.map_cons, List.sum_cons, List.length_cons]
        have := hd.l
        omega
  refine ⟨a1.1, ?_, ?_⟩
  · unfold PyData.depth; have := a1.2.1; omega
  · unfold PyData.shown
    refine Nat.le_trans (listText_ub _) (Nat.le_trans (Nat.add_le_add_left a1.2.2 2) ?_)
    refine Nat.le_trans (show 2 + 1002 * ds.length ≤ 100000 by omega) (by decide)
theorem s_reprL {H : Hp} {Q : VK} {l : Addr} {vs : List V} {ds : List PyData} (hl : H l = some (.lst vs)) (nl : l ≠ sysModules) (hv : VdAll H vs ds) (ho : ∀ d ∈ ds, VOk d) (hz : ds.length ≤ 10) (h : Q (.str (PyData.list ds).shown) H) : rReprL [.ref l] H Q := by
  obtain ⟨h1, h2, h3⟩ := shown_small ho hz
  exact ⟨l, vs, ds, rfl, hl, nl, hv, h1, h2, h3, h⟩
section
variable {σ : L2.St} {H : Hp} {Q : VK} {K : PySem.W.Frag}
theorem s_lamF {T : List (Addr × Str)} {q : Str} {params : Arguments} {body : Expr} {scope : Scope} (ht : Tabs T H) (h : ∀ f c' H1, H f = none → ExtN H H1 → Tabs T H1 → H1 f = some (LamF f q params body scope c') → H1 c' = some (CodeO c' q) → Q (.ref f) H1) : tLamF T q params body scope σ H Q := ⟨ht, h⟩
theorem s_lstN {t : TA} (h : t σ H fun xs H1 => xs.length ≤ sizeLine ∧ ∀ p, H1 p = none → p ≠ sysModules → ap Q (.ref p) (upd H1 p (.lst xs))) : tLstN t σ H Q := h
theorem s_newN {o : HO} {n : Nat} (hz : n ≤ sizeLine) (h : ∀ p H2, H p = none → p ≠ sysModules → Ex H H2 → H2 p = some o → Q (.ref p) H2) : n ≤ sizeLine ∧ ∀ p, H p = none → p ≠ sysModules → ap Q (.ref p) (upd H p o) :=
  ⟨hz, fun p hp np => h p _ hp np (ex_new hp) upd_same⟩
theorem s_callF {P : Program} {w : World} {mg : Str → Option Value} {base : Heap} {k : Nat} {tf : TE} {ta : TA} (h : tf σ H fun fv H1 => ∃ (f : Addr) (sp : Sp), fv = .ref f ∧ LamAt P w K mg base k H1 f sp ∧ ta σ H1 fun vs H2 => ∃ v, vs = [v] ∧ LamAt P w K mg base k H2 f sp ∧ sp [v] H2 Q (fun _ _ _ => False)) : tCallF P w K mg base k tf ta σ H Q := h
def KindsAt (Lm : Hp → Addr → Sp → Prop) (K : PySem.W.Frag) (cs : List Addr) (H : Hp) (l : Addr) : Prop := ∃ xs, H l = some (.lst xs) ∧ xs.length = 26 ∧ ∀ j, j < 26 → ∃ f, xs[j]? = some (.ref f) ∧ Lm H f (spKind K (cs.getD j 0))
theorem KindsAt.exN {Lm : Hp → Addr → Sp → Prop} (hL : ∀ H H' f sp, Lm H f sp → ExtN H H' → Lm H' f sp) {cs : List Addr} {H H' : Hp} {l : Addr} (h : KindsAt Lm K cs H l) (e : ExtN H H') : KindsAt Lm K cs H' l := by
  obtain ⟨xs, h1, h2, h3⟩ := h
  exact ⟨xs, e _ _ h1 (fun _ z => nomatch z), h2, fun j hj => (h3 j hj).imp fun f h => ⟨h.1, hL _ _ _ _ h.2 e⟩⟩
theorem KX.callF {X : Cx} {P : Program} {w : World} {mg : Str → Option Value} {base : Heap} {k j : Nat} {fe e : Expr} {tf : TE} {ta : TA} {pos : Pos} (hr : Room j X.A) (hf : PE X fe tf) (ha : PA X [e] ta) (hk : k + 1 ≤ j := by decide)
    (hP : X.prog = P := by rfl) (hw : X.w = w := by rfl) (hK : X.K = K := by rfl) (hmg : X.mg = mg := by rfl) (hb : X.base = base := by rfl)
    (harm : eval (.Call fe [e] [] pos) X.env = (do callWith pos (← eval fe X.env) [] (backTo pos (starEach [e] X.env)) (backToKw pos (keywordEach [] X.env))) := by rfl)
    (he : starEach [e] X.env = (false, eval e X.env) :: starEach [] X.env := by rfl) (hpl : (backTo pos (starEach [] X.env)).any (·.1) = false := by rfl) :
    PE X (.Call fe [e] [] pos) (tCallF P w K mg base k tf ta) := by
  subst hP hw hK hmg hb
  exact pe_callF hr hf ha hk harm he hpl
end
theorem getD_mem' {l : List Addr} {j : Nat} (h : j < l.length) : l.getD j 0 ∈ l := by
  simp [List.getD, List.getElem?_eq_getElem h]
theorem allR {p : Nat → Bool} {n : Nat} (h : (List.range n).all p = true) : ∀ j, j < n → p j = true := fun j hj => List.all_eq_true.mp h j (List.mem_range.mpr hj)
end L3
end
section
namespace L3
open PySem PySem.Spec PyProof.Rows L2 LamX
inductive Pq (K : PySem.W.Frag) (H : Hp) : V → V → Bool → Prop
  | dat {x y : V} {d e : PyData} : Dp K H x d → Dp K H y e → SeqAt.shaped d = true → SeqAt.shaped e = true → Pq K H x y (PyData.eqv d e)
  | d0 {p : Addr} : H p = some (.dK []) → Pq K H (.ref p) (.ref p) true
  | d1 {p : Addr} {k v : Str} : H p = some (.dK [(.inr k, .str v)]) → Pq K H (.ref p) (.ref p) true
def rPq (K : PySem.W.Frag) : R2 := fun x y H Q => ∃ b, Pq K H x y b ∧ Q (.bl b) H
theorem opPq {X : Cx} (hu : X.A.units + 64 < cLine) : OpR X (compareOp .Eq) (rPq X.K) := by
  intro pins s σ H x y v u Q I rx ry h
  obtain ⟨b, h, q⟩ := h
  cases h with
  | dat h1 h2 h3 h4 => exact op_eqD hu pins s σ H x y v u Q I rx ry ⟨_, _, h1, h2, h3, h4, q⟩
  | @d0 p h => exact op_eqV hu pins s σ H _ _ v u Q I rx ry ⟨1, by decide, .inr ⟨p, p, [], [], rfl, rfl, h, h, rfl, fun _ z => nomatch z⟩, q⟩
  | @d1 p k z h =>
    refine op_eqV hu pins s σ H _ _ v u Q I rx ry ⟨1, by decide, .inr ⟨p, p, _, _, rfl, rfl, h, h, rfl, fun c hc => ?_⟩, q⟩
    rw [List.mem_singleton.mp hc]
    exact ⟨.str z, by simp [valV], .inl ⟨rfl, rfl⟩⟩
def rNq (K : PySem.W.Frag) : R2 := fun x y H Q => ∃ b, Pq K H x y b ∧ Q (.bl (!b)) H
theorem opNq {X : Cx} (hu : X.A.units + 64 < cLine) : OpR X (compareOp .NotEq) (rNq X.K) := by
  intro pins s σ H x y v u Q I rx ry h
  obtain ⟨b, h, q⟩ := h
  have dc : ∀ (p : Addr) (kvs : List (Key × V)), H p = some (.dK kvs) → (∀ vs, KV kvs vs → PySem.W.KeqHits X.A.in1 s vs vs true) → Q (.bl (!true)) H → wpAny (model X.prog X.w) X.A (compareOp .NotEq (.ref p) (.ref p)) (EP X pins σ Q) X.xe s := fun p kvs h hk q => by
    obtain ⟨_, ya, va, ra, da⟩ := (show ObjOk X.prog X.w H s.heap p (.dK kvs) from I.hok p _ h)
    refine PySem.W.keq_ne (knd := mixKind X.prog X.w) (r := true) ya ya da da (by omega) (fun _ => hk va ra) ⟨.bl false, H, I, ?_, q⟩
    show Value.bool (!(va.length == va.length && true)) = Value.bool false
    simp
  cases h with
  | dat h1 h2 h3 h4 => exact op_neD hu pins s σ H x y v u Q I rx ry ⟨_, _, h1, h2, h3, h4, q⟩
  | @d0 p h =>
    cases (show v = Value.ref p from rx)
    cases (show u = Value.ref p from ry)
    exact dc p _ h (fun vs kv => by cases kv; exact .nil) q
  | @d1 p k z h =>
    cases (show v = Value.ref p from rx)
    cases (show u = Value.ref p from ry)
    refine dc p _ h (fun vs kv => ?_) q
    cases kv with
    | cons rv kv' =>
      cases kv'
      rename_i y
      obtain ⟨y1, y2⟩ := y
      exact PySem.W.KeqHits.hit (e := true) (b := true) (by simp [valueAt]) (SeqAt.EqAt.same _) .nil
/-- tuples of such values -/
inductive PqAll (K : PySem.W.Frag) (H : Hp) : List V → List V → List Bool → Prop
  | nil : PqAll K H [] [] []
  | cons {x y : V} {b : Bool} {xs ys : List V} {bs : List Bool} : Pq K H x y b → PqAll K H xs ys bs → PqAll K H (x :: xs) (y :: ys) (b :: bs)
def rTq (K : PySem.W.Frag) : R2 := fun x y H Q => ∃ p q xs ys bs, x = .ref p ∧ y = .ref q ∧ H p = some (.tup xs) ∧ H q = some (.tup ys) ∧ PqAll K H xs ys bs ∧ Q (.bl (bs.all id)) H
theorem Pq.eqAt {X : Cx} {pins : List (Addr × Obj)} {σ : L2.St} {H : Hp} {s : Shared} {x y : V} {b : Bool} {v u : Value} (I : Inv X pins σ H s) (hu : X.A.units + 66 < cLine) (h : Pq X.K H x y b) (rx : RelV x v) (ry : RelV y u) : SeqAt.EqAt X.A.in1 s v u b := by
  cases h with
  | dat h1 h2 h3 h4 =>
    obtain ⟨as, r1⟩ := Dp.reads I _ x v h1 rx
    obtain ⟨bs, r2⟩ := Dp.reads I _ y u h2 ry
    exact PySem.W.keq_at r1 r2 h3 h4 (by show X.A.units + 1 + 64 < cLine; omega)
  | @d0 p h =>
    cases (show v = Value.ref p from rx)
    cases (show u = Value.ref p from ry)
    exact SeqAt.EqAt.same _
  | @d1 p k z h =>
    cases (show v = Value.ref p from rx)
    cases (show u = Value.ref p from ry)
    exact SeqAt.EqAt.same _
theorem PqAll.eqAt {X : Cx} {pins : List (Addr × Obj)} {σ : L2.St} {H : Hp} {s : Shared} (I : Inv X pins σ H s) (hu : X.A.units + 66 < cLine) : ∀ {xs ys : List V} {bs : List Bool} {us ws : List Value}, PqAll X.K H xs ys bs → Vals xs us → Vals ys ws → us.length = bs.length ∧ ws.length = bs.length ∧
    ∀ j (h1 : j < us.length) (h2 : j < ws.length), SeqAt.EqAt X.A.in1 s us[j] ws[j] (bs.getD j true)
  | _, _, _, _, _, .nil, r1, r2 => by cases r1; cases r2; exact ⟨rfl, rfl, fun j h1 => absurd h1 (Nat.not_lt_zero _)⟩
  | _, _, _, _, _, .cons a b, r1, r2 => by
    cases r1 with
    | cons a1 b1 =>
      cases r2 with
      | cons a2 b2 =>
        obtain ⟨l1, l2, k⟩ := PqAll.eqAt I hu b b1 b2
        refine ⟨by simp [l1], by simp [l2], fun j h1 h2 => ?_⟩
        cases j with
        | zero => exact a.eqAt I hu a1 a2
        | succ j => exact k j (Nat.lt_of_succ_lt_succ h1) (Nat.lt_of_succ_lt_succ h2)
theorem all_range : ∀ bs : List Bool, (List.range bs.length).all (fun j => bs.getD j true) = bs.all id := fun bs => by
  induction bs with
  | nil => rfl
  | cons b r ih =>
    rw [List.length_cons, List.range_succ_eq_map, List.all_cons, List.all_map]
    show (b && (List.range r.length).all fun j => r.getD j true) = _
    rw [ih]; rfl
theorem opTq {X : Cx} (hu : X.A.units + 66 < cLine) : OpR X (compareOp .Eq) (rTq X.K) := by
  intro pins s σ H x y v u Q I rx ry h
  obtain ⟨p, q, xs, ys, bs, rfl, rfl, hp, hq, ha, k⟩ := h
  cases (show v = Value.ref p from rx)
  cases (show u = Value.ref q from ry)
  obtain ⟨_, us, r1, t1⟩ := (show ObjOk X.prog X.w H s.heap p (.tup xs) from I.hok p _ hp)
  obtain ⟨_, ws, r2, t2⟩ := (show ObjOk X.prog X.w H s.heap q (.tup ys) from I.hok q _ hq)
  obtain ⟨l1, l2, ke⟩ := ha.eqAt I hu r1 r2
  refine SeqAt.eq_tupleAt (e := fun j => bs.getD j true) t1 t2 (by omega) (fun j h1 h2 => ?_) ⟨.bl (bs.all id), H, I, ?_, k⟩
  · have := ke j (by simpa using h1) (by simpa using h2)
    simpa using this
  · show Value.bool _ = Value.bool _
    rw [List.size_toArray, List.size_toArray, l1, l2, Nat.min_self, all_range]
    simp
section
variable {K : PySem.W.Frag} {H : Hp}
theorem KX.pq {X : Cx} (hK : X.K = K) (hu : X.A.units + 64 < cLine) : OpR X (compareOp .Eq) (rPq K) := by subst hK; exact opPq hu
theorem KX.nq {X : Cx} (hK : X.K = K) (hu : X.A.units + 64 < cLine) : OpR X (compareOp .NotEq) (rNq K) := by subst hK; exact opNq hu
theorem KX.tq {X : Cx} (hK : X.K = K) (hu : X.A.units + 66 < cLine) : OpR X (compareOp .Eq) (rTq K) := by subst hK; exact opTq hu
theorem dpLits : ∀ xs : List V, xs.all litB = true → DpAll K H xs (xs.map litD)
  | [], _ => .nil
  | x :: r, h => by
    rw [List.all_cons, Bool.and_eq_true] at h
    have ih := dpLits r h.2
    cases x with
    | int i => exact .cons (.int i) ih
    | bl b => exact .cons (.bl b) ih
    | str z => exact .cons (.str z) ih
    | non => exact .cons .non ih
    | _ => exact absurd h.1 (by simp [litB])
/-- what is drawn is equal to itself -/
structure VSh (d : PyData) : Prop where
  sh : d.hasDict = true ∨ SeqAt.shaped d = true
theorem Vd.pq {v : V} {d : PyData} (h : Vd H v d) (hs : VSh d) : Pq K H v v true := by
  have go : Dp K H v d → SeqAt.shaped d = true → Pq K H v v true := fun hd s => by
    have := Pq.dat hd hd s s
    rw [SeqAt.eqv_refl _ (SeqAt.canLay_of_shaped s)] at this
    exact this
  cases h with
  | non => exact go .non (hs.sh.resolve_left (by decide))
  | bl b => exact go (.bl b) (hs.sh.resolve_left (fun z => nomatch z))
  | int i => exact go (.int i) (hs.sh.resolve_left (fun z => nomatch z))
  | str z => exact go (.str z) (hs.sh.resolve_left (fun z => nomatch z))
  | @tup p xs h1 h2 => have d := dpLits (K := K) (H := H) xs h2; exact go (.tup (.inl (.inl h1)) d) (hs.sh.resolve_left (by rw [show (PyData.tuple (xs.map litD)).hasDict = false from dp_noDict (K := K) (H := H) _ _ (.tup (.inl (.inl h1)) d)]; exact Bool.false_ne_true))
  | @lst p xs h1 _ h2 => have d := dpLits (K := K) (H := H) xs h2; exact go (.lst (.inl (.inl h1)) d) (hs.sh.resolve_left (by rw [show (PyData.list (xs.map litD)).hasDict = false from dp_noDict (K := K) (H := H) _ _ (.lst (.inl (.inl h1)) d)]; exact Bool.false_ne_true))
  | d0 h => exact .d0 h
  | d1 h => exact .d1 h
theorem pqInt (i j : Int) : Pq K H (.int i) (.int j) (decide (i = j)) := by
  have := Pq.dat (K := K) (H := H) (.int i) (.int j) rfl rfl
  rw [show PyData.eqv (.int i) (.int j) = decide (i = j) by first | rfl | (simp [PyData.eqv])] at this
  exact this
end
def rBoolP (K : PySem.W.Frag) (f : Addr) : List V → Hp → VK → Prop := fun xs H Q => ∃ a C dx fs b, xs = [.ref a] ∧ H a = some (.ins C dx fs) ∧
  ((b = true ∧ PySem.W.findIn K (.ref C) "__bool__" = some none ∧ PySem.W.findIn K (.ref C) "__len__" = some none) ∨ (b = false ∧ PySem.W.findIn K (.ref C) "__bool__" = some (some (.ref f)))) ∧ Q (.bl b) H
def spNo : Sp := fun vs H Q _ => ∃ p, vs = [.ref p] ∧ Q (.bl false) H
theorem call_boolT {prog : Program} {w : World} {A : Around} {E : Value → Shared → Prop} {s : Shared} {K : PySem.W.Frag} {x C : Addr} {ox : Obj} {od : Option Obj} {Q : Value → Shared → Prop} (X : K.In s.heap) (I : PySem.W.InstAt s.heap x ox C od)
    (hs : PySem.W.findIn K (.ref C) "__bool__" = some none) (hl : PySem.W.findIn K (.ref C) "__len__" = some none) (h : Q (.bool true) s) : wpAny (model prog w) A (call (.type "bool") [.ref x]) Q E s := by
  refine callType_newIn (S := fun A R s => wpAny (model prog w) A.in1 (truthy (.ref x)) (fun b s' => R (.ok (.ret (.bool b))) s') (fun e s' => R (.error e) s') s) PySem.F.called_bool PySem.F.newNe_bool (PySem.F.typeCall_bool_1 _) (PySem.F.newCall_bool_1 _) (fun obj => PySem.F.args_object_init_2 obj _) PySem.F.entry_bool_new (fun A R s hs => ?_) ?_
  · obtain ⟨hp, g, d, tk, os⟩ := s
    have f1 := PySem.F.conv_sub_bool
    repeat (any_goals (first | assumption | (refine wpAny_bind (m := truthy (.ref x)) (wpAny_mono hs (fun b s' hb => ?_) fun _ _ e => e)) | wp_step))
    all_goals first | exact hb | skip
  · unfold truthy
    refine wpAny_bind (m := callSpecial? (.ref x) (Str.ofString "__bool__")) (wpAny_bind (wpAny_bind (I.type.here ((PySem.W.looks_findIn X hs).here (wpAny_pure ?_)))))
    refine wpAny_bind (wpAny_bind (I.type.here ((PySem.W.looks_findIn X hl).here ?_)))
    exact wpAny_pure ⟨rfl, h⟩
theorem callBoolP {X : Cx} {f : Addr} {fd : FuncData} {k j : Nat} (hf : PySem.W.isFn X.K (.ref f) = true) (G : FnOk X.prog X.w X.K X.mg X.base CX0 k f fd ["self"] spNo) (hb : L2.Binds X.K fd ["self"] []) (hr : Room (j + 2) X.A) (hk : k ≤ j := by decide) : CallR X (.type "bool") (rBoolP X.K f) := by
  intro pins s σ H xs us Q I r h
  obtain ⟨a, C, dx, fs, b, rfl, ea, hc, q⟩ := h
  obtain ⟨u, rfl, rx⟩ := vals1 r
  cases (show u = Value.ref a from rx)
  obtain ⟨od, J⟩ := ins_inst I.hok ea
  rcases hc with ⟨rfl, h1, h2⟩ | ⟨rfl, h1⟩
  · exact call_boolT I.kIn J h1 h2 ⟨.bl true, H, I, rfl, q⟩
  · refine call_boolOwn I.kIn J h1 hf ?_
    refine wpAny_call (codeAny_mono (G.run X.A.in1.in1 X.stack s H ⟨[.ref a], []⟩ [.ref a] [.ref a] (fun z H' => ∃ c, z = .bl c ∧ Q (.bl c) H') (fun _ _ _ => False) (hr.in1.in1.mono hk) I.env0.in1.in1 (by have := hb s [.ref a] I.kIn rfl; rw [List.append_nil] at this; exact this) (.cons (show RelV (.ref a) (.ref a) from rfl) .nil) ⟨a, rfl, false, rfl, q⟩) fun r s' z => ?_)
    match r, z with
    | .error e, z => exact False.elim z
    | .ok (.ret u), z =>
      obtain ⟨v', H', I', r', c, rfl, q'⟩ := I.after z
      cases (show u = Value.bool c from r')
      exact ⟨c, rfl, .bl c, H', I', rfl, q'⟩
theorem KX.boolP {X : Cx} {K : PySem.W.Frag} {f : Addr} {fd : FuncData} {k j : Nat} (hK : X.K = K) (hf : PySem.W.isFn X.K (.ref f) = true) (G : FnOk X.prog X.w X.K X.mg X.base CX0 k f fd ["self"] spNo) (hb : L2.Binds X.K fd ["self"] []) (hr : Room (j + 2) X.A) (hk : k ≤ j := by decide) : CallR X (.type "bool") (rBoolP K f) := by subst hK; exact callBoolP hf G hb hr hk
end L3
end
section
namespace L3
open PySem PySem.Spec PyProof.Rows L2 LamX
section
variable {K : PySem.W.Frag} {σ : L2.St} {H H' : Hp} {Q : VK} {C : Addr}
def PaAt (H : Hp) (q C : Addr) (fs : List (Str × V)) : Prop := ∃ dx, H q = some (.ins C dx fs)
theorem PaAt.exN {q : Addr} {fs : List (Str × V)} (h : PaAt H q C fs) (e : ExtN H H') : PaAt H' q C fs := h.imp fun _ h => e _ _ h fun _ z => nomatch z
theorem PaAt.ex {q : Addr} {fs : List (Str × V)} (h : PaAt H q C fs) (e : Ex H H') : PaAt H' q C fs := h.exN e.n
def flF (ns : List Str) (xs : List V) : List (Str × V) := (ns.zip xs).foldl (fun a p => putF p.1 p.2 a) []
def spInit (C : Addr) (ns : List Str) : Sp := fun vs H Q _ => ∃ p dx xs, vs = .ref p :: xs ∧ xs.length = ns.length ∧ H p = some (.ins C dx []) ∧ ∀ H', (∀ c o, c ≠ p → H c = some o → H' c = some o) → H' p = some (.ins C dx (flF ns xs)) → Q .non H'
theorem mkP {ns : List Str} {ta : TA} {E : XK} {R : VK} (xs : List V) (hr : ∀ R' : List V → Hp → Prop, R' xs H → ta σ H R') (hl : xs.length = ns.length) (h : ∀ q H', H q = none → Ex H H' → PaAt H' q C (flF ns xs) → R (.ref q) H') : tMake C (spInit C ns) [] E ta σ H R :=
  hr _ fun p dx hp hd hn => ⟨p, dx, xs, by rw [List.append_nil], hl, upd_same, fun H' hk h1 => ⟨rfl, h p H' hp (fun c o e => hk c o (ne_of_none e hp) (by rw [upd_ne (ne_of_none e hp), upd_ne (ne_of_none e hd)]; exact e)) ⟨dx, h1⟩⟩⟩
theorem mkPK {ns : List Str} {t tk : TA} {n m : Nat} {gV : List V → List V → List V} {E : XK} {R : VK} (xs : List V) (hr : ∀ (R' : List V → List V → Hp → Prop), (∀ vs zs, vs.length = n → zs.length = m → (∀ a, gV (.ref a :: vs) zs = .ref a :: xs) → R' vs zs H) → t σ H fun vs H1 => tk σ H1 fun zs H2 => R' vs zs H2)
    (hl : xs.length = ns.length) (h : ∀ q H', H q = none → Ex H H' → PaAt H' q C (flF ns xs) → R (.ref q) H') : tMakeK C n m (spInit C ns) gV E t tk σ H R := by
  refine hr _ fun vs zs l1 l2 hg => ⟨l1, l2, fun p dx hp hd hn => ?_⟩
  rw [hg]
  exact ⟨p, dx, xs, rfl, hl, upd_same, fun H' hk h1 => ⟨rfl, h p H' hp (fun c o e => hk c o (ne_of_none e hp) (by rw [upd_ne (ne_of_none e hp), upd_ne (ne_of_none e hd)]; exact e)) ⟨dx, h1⟩⟩⟩
/-- keywords in another order -/
def permG {α : Type} (ix : List Nat) : List α → List α → List α
  | s :: vs, ws => s :: ix.map fun i => (vs ++ ws).getD i s
  | [], _ => []
theorem vals_getD : ∀ {vs : List V} {us : List Value} {a : V} {b : Value} (i : Nat), Vals vs us → RelV a b → RelV (vs.getD i a) (us.getD i b)
  | [], _, _, _, _, h, r => by cases h; exact r
  | v :: vs, _, _, _, 0, h, r => by cases h with | cons h1 h2 => exact h1
  | v :: vs, _, _, _, i + 1, h, r => by cases h with | cons h1 h2 => exact vals_getD i h2 r
theorem permG_rel (ix : List Nat) {vs zs : List V} {us ws : List Value} (h1 : Vals vs us) (h2 : Vals zs ws) : Vals (permG ix vs zs) (permG ix us ws) := by
  cases h1 with
  | nil => exact .nil
  | cons a as =>
    refine .cons a ?_
    have as2 : Vals _ _ := as
    have ap := as2.append h2
    induction ix with
    | nil => exact .nil
    | cons i r ih => exact .cons (vals_getD i ap a) ih
/-- a class made with some positional values and keywords -/
structure McN (P : Program) (w : World) (K : PySem.W.Frag) (mg : Str → Option Value) (base : Heap) (CX : CXT) (k : Nat) (x : Str) (C : Addr) (n : Nat) (ps : List Str) (sp : Sp) (ks : List Str) (gV : List V → List V → List V) : Prop where
  ex : ∃ (f : Addr) (fd : FuncData) (g : List Value → List Value → List Value), FnOk P w K mg base CX k f fd ps sp ∧ mg x = some (.ref C) ∧ Mk K C f ∧ KBn K fd ps (n + 1) ks g gV
end
section
variable {X : Cx} {CX : CXT} {k : Nat} {ps ks : List Str} {sp : Sp} {E : XK} {x : Str} {p pos : Pos} {e : Expr} {es : List Expr} {t tk : TA} {kws : List Keyword}
theorem pe_mkN0 {j : Nat} {C : Addr} {gV : List V → List V → List V} (c : McN X.prog X.w X.K X.mg X.base CX k x C 0 ps sp ks gV) (hr : Room j X.A) (hx : Passes CX X E) (ha : PK X kws t) (hk : k + 1 ≤ j := by decide) (gl : Gl X x := by rfl)
    (hall : ((backToKw pos (keywordEach kws X.env)).all fun x => x.1.isSome) = true := by rfl) (hks : List.filterMap (fun x => x.1) (backToKw pos (keywordEach kws X.env)) = ks := by rfl)
    (hdb : (x == ("__debug__" : Str)) = false := by decide) (hpl : ((backTo pos (starEach [] X.env)).any (fun x => x.1) || (backToKw pos (keywordEach kws X.env)).any fun x => x.1.isNone) = false := by rfl) :
    PE X (.Call (.Name x p) [] kws pos) (tMakeK C 0 ks.length sp gV E tNil t) := by
  obtain ⟨f, fd, g, F, m, M, b⟩ := c.ex
  exact pe_makeK0 M F (hr.mono hk) gl m b hx ha hall hks hdb hpl
theorem pe_mkN {j n : Nat} {C : Addr} {gV : List V → List V → List V} (c : McN X.prog X.w X.K X.mg X.base CX k x C n ps sp ks gV) (hr : Room j X.A) (hx : Passes CX X E) (ha : PA X (e :: es) t) (hkw : PK X kws tk) (hk : k + 1 ≤ j := by decide) (gl : Gl X x := by rfl)
    (hall : ((backToKw pos (keywordEach kws X.env)).all fun x => x.1.isSome) = true := by rfl) (hks : List.filterMap (fun x => x.1) (backToKw pos (keywordEach kws X.env)) = ks := by rfl)
    (hdb : (x == ("__debug__" : Str)) = false := by decide) (he : starEach (e :: es) X.env = (false, eval e X.env) :: starEach es X.env := by rfl) (hpl : ((backTo pos (starEach (e :: es) X.env)).any (fun x => x.1) || (backToKw pos (keywordEach kws X.env)).any fun x => x.1.isNone) = false := by rfl) :
    PE X (.Call (.Name x p) (e :: es) kws pos) (tMakeK C n ks.length sp gV E t tk) := by
  obtain ⟨f, fd, g, F, m, M, b⟩ := c.ex
  exact pe_makeK M F (hr.mono hk) gl m b hx ha hkw hall hks hdb he hpl
end
section
variable {K : PySem.W.Frag} {σ : L2.St} {H H' : Hp} {Q : VK} {C : Addr}
theorem Pq.ex {x y : V} {b : Bool} (h : Pq K H x y b) (e : Ex H H') : Pq K H' x y b := by
  have sl : ∀ a xs, SqL K H a xs → SqL K H' a xs := fun a xs h => by
    rcases h with (h | ⟨o, h⟩) | h
    · exact .inl (.inl (e _ _ h))
    · exact .inl (.inr ⟨o, e _ _ h⟩)
    · exact .inr h
  have st : ∀ a xs, SqT K H a xs → SqT K H' a xs := fun a xs h => by
    rcases h with (h | ⟨o, h⟩) | h
    · exact .inl (.inl (e _ _ h))
    · exact .inl (.inr ⟨o, e _ _ h⟩)
    · exact .inr h
  cases h with
  | dat h1 h2 h3 h4 => exact .dat (Dp.exN e.n _ _ sl st h1) (Dp.exN e.n _ _ sl st h2) h3 h4
  | d0 h => exact .d0 (e _ _ h)
  | d1 h => exact .d1 (e _ _ h)
theorem inv1 {n1 : Str} {fs fs2 : List (Str × V)} {xs ys : List V} {bs : List Bool} (h1 : [n1].map (fun n => fs.lookup n) = xs.map some) (h2 : [n1].map (fun n => fs2.lookup n) = ys.map some) (ha : PqAll K H xs ys bs) :
    ∃ x1 y1 b1, bs = [b1] ∧ fs.lookup n1 = some x1 ∧ fs2.lookup n1 = some y1 ∧ Pq K H x1 y1 b1 := by
  cases ha with
  | nil => simp at h1
  | cons p1 ha =>
    cases ha with
    | cons _ _ => simp at h1
    | nil =>
      simp only [List.map_cons, List.map_nil, List.cons.injEq, and_true] at h1 h2
      exact ⟨_, _, _, rfl, h1, h2, p1⟩
theorem inv2 {n1 n2 : Str} {fs fs2 : List (Str × V)} {xs ys : List V} {bs : List Bool} (h1 : [n1, n2].map (fun n => fs.lookup n) = xs.map some) (h2 : [n1, n2].map (fun n => fs2.lookup n) = ys.map some) (ha : PqAll K H xs ys bs) :
    ∃ x1 x2 y1 y2 b1 b2, bs = [b1, b2] ∧ fs.lookup n1 = some x1 ∧ fs2.lookup n1 = some y1 ∧ Pq K H x1 y1 b1 ∧ fs.lookup n2 = some x2 ∧ fs2.lookup n2 = some y2 ∧ Pq K H x2 y2 b2 := by
  cases ha with
  | nil => simp at h1
  | cons p1 ha =>
    cases ha with
    | nil => simp at h1
    | cons p2 ha =>
      cases ha with
      | cons _ _ => simp at h1
      | nil =>
        simp only [List.map_cons, List.map_nil, List.cons.injEq, and_true] at h1 h2
        obtain ⟨e1, e2⟩ := h1
        obtain ⟨g1, g2⟩ := h2
        exact ⟨_, _, _, _, _, _, rfl, e1, g1, p1, e2, g2, p2⟩
theorem inv3 {n1 n2 n3 : Str} {fs fs2 : List (Str × V)} {xs ys : List V} {bs : List Bool} (h1 : [n1, n2, n3].map (fun n => fs.lookup n) = xs.map some) (h2 : [n1, n2, n3].map (fun n => fs2.lookup n) = ys.map some) (ha : PqAll K H xs ys bs) :
    ∃ x1 x2 x3 y1 y2 y3 b1 b2 b3, bs = [b1, b2, b3] ∧ fs.lookup n1 = some x1 ∧ fs2.lookup n1 = some y1 ∧ Pq K H x1 y1 b1 ∧ fs.lookup n2 = some x2 ∧ fs2.lookup n2 = some y2 ∧ Pq K H x2 y2 b2 ∧ fs.lookup n3 = some x3 ∧ fs2.lookup n3 = some y3 ∧ Pq K H x3 y3 b3 := by
  cases ha with
  | nil => simp at h1
  | cons p1 ha =>
    cases ha with
    | nil => simp at h1
    | cons p2 ha =>
      cases ha with
      | nil => simp at h1
      | cons p3 ha =>
        cases ha with
        | cons _ _ => simp at h1
        | nil =>
          simp only [List.map_cons, List.map_nil, List.cons.injEq, and_true] at h1 h2
          obtain ⟨e1, e2, e3⟩ := h1
          obtain ⟨g1, g2, g3⟩ := h2
          exact ⟨_, _, _, _, _, _, _, _, _, rfl, e1, g1, p1, e2, g2, p2, e3, g3, p3⟩
theorem inv4 {n1 n2 n3 n4 : Str} {fs fs2 : List (Str × V)} {xs ys : List V} {bs : List Bool} (h1 : [n1, n2, n3, n4].map (fun n => fs.lookup n) = xs.map some) (h2 : [n1, n2, n3, n4].map (fun n => fs2.lookup n) = ys.map some) (ha : PqAll K H xs ys bs) :
    ∃ x1 x2 x3 x4 y1 y2 y3 y4 b1 b2 b3 b4, bs = [b1, b2, b3, b4] ∧ fs.lookup n1 = some x1 ∧ fs2.lookup n1 = some y1 ∧ Pq K H x1 y1 b1 ∧ fs.lookup n2 = some x2 ∧ fs2.lookup n2 = some y2 ∧ Pq K H x2 y2 b2 ∧ fs.lookup n3 = some x3 ∧ fs2.lookup n3 = some y3 ∧ Pq K H x3 y3 b3 ∧ fs.lookup n4 = some x4 ∧ fs2.lookup n4 = some y4 ∧ Pq K H x4 y4 b4 := by
  cases ha with
  | nil => simp at h1
  | cons p1 ha =>
    cases ha with
    | nil => simp at h1
    | cons p2 ha =>
      cases ha with
      | nil => simp at h1
      | cons p3 ha =>
        cases ha with
        | nil => simp at h1
        | cons p4 ha =>
          cases ha with
          | cons _ _ => simp at h1
          | nil =>
            simp only [List.map_cons, List.map_nil, List.cons.injEq, and_true] at h1 h2
            obtain ⟨e1, e2, e3, e4⟩ := h1
            obtain ⟨g1, g2, g3, g4⟩ := h2
            exact ⟨_, _, _, _, _, _, _, _, _, _, _, _, rfl, e1, g1, p1, e2, g2, p2, e3, g3, p3, e4, g4, p4⟩
theorem inv5 {n1 n2 n3 n4 n5 : Str} {fs fs2 : List (Str × V)} {xs ys : List V} {bs : List Bool} (h1 : [n1, n2, n3, n4, n5].map (fun n => fs.lookup n) = xs.map some) (h2 : [n1, n2, n3, n4, n5].map (fun n => fs2.lookup n) = ys.map some) (ha : PqAll K H xs ys bs) :
    ∃ x1 x2 x3 x4 x5 y1 y2 y3 y4 y5 b1 b2 b3 b4 b5, bs = [b1, b2, b3, b4, b5] ∧ fs.lookup n1 = some x1 ∧ fs2.lookup n1 = some y1 ∧ Pq K H x1 y1 b1 ∧ fs.lookup n2 = some x2 ∧ fs2.lookup n2 = some y2 ∧ Pq K H x2 y2 b2 ∧ fs.lookup n3 = some x3 ∧ fs2.lookup n3 = some y3 ∧ Pq K H x3 y3 b3 ∧ fs.lookup n4 = some x4 ∧ fs2.lookup n4 = some y4 ∧ Pq K H x4 y4 b4 ∧ fs.lookup n5 = some x5 ∧ fs2.lookup n5 = some y5 ∧ Pq K H x5 y5 b5 := by
  cases ha with
  | nil => simp at h1
  | cons p1 ha =>
    cases ha with
    | nil => simp at h1
    | cons p2 ha =>
      cases ha with
      | nil => simp at h1
      | cons p3 ha =>
        cases ha with
        | nil => simp at h1
        | cons p4 ha =>
          cases ha with
          | nil => simp at h1
          | cons p5 ha =>
            cases ha with
            | cons _ _ => simp at h1
            | nil =>
              simp only [List.map_cons, List.map_nil, List.cons.injEq, and_true] at h1 h2
              obtain ⟨e1, e2, e3, e4, e5⟩ := h1
              obtain ⟨g1, g2, g3, g4, g5⟩ := h2
              exact ⟨_, _, _, _, _, _, _, _, _, _, _, _, _, _, _, rfl, e1, g1, p1, e2, g2, p2, e3, g3, p3, e4, g4, p4, e5, g5, p5⟩
def spEqC (K : PySem.W.Frag) (C : Addr) (ns : List Str) : Sp := fun vs H Q _ => ∃ p y fs, vs = [.ref p, y] ∧ PaAt H p C fs ∧ ((∃ q fs' xs ys bs, y = .ref q ∧ PaAt H q C fs' ∧ fs.lookup ("own_row" : Str) = none ∧ fs'.lookup ("own_row" : Str) = none ∧ ns.map (fun n => fs.lookup n) = xs.map some ∧ ns.map (fun n => fs'.lookup n) = ys.map some ∧ PqAll K H xs ys bs ∧ ∀ H', Ex H H' → Q (.bl (bs.all id)) H') ∨
  (∃ ty, TyA K H y ty ∧ PySem.W.kitOne K ty (.ref C) = some false ∧ ∀ H', Ex H H' → Q (.bl false) H'))
theorem pqAll_same : ∀ {xs : List V}, (∀ x ∈ xs, Pq K H x x true) → ∃ bs, PqAll K H xs xs bs ∧ bs.all id = true
  | [], _ => ⟨[], .nil, rfl⟩
  | x :: r, h => by
    obtain ⟨bs, a, b⟩ := pqAll_same fun y hy => h y (List.mem_cons_of_mem _ hy)
    exact ⟨true :: bs, .cons (h x List.mem_cons_self) a, by rw [List.all_cons, b]; rfl⟩
/-- own ==, the other one a list too -/
def OthL (K : PySem.W.Frag) (C : Addr) (y : V) (H : Hp) : Prop := OthD K C y H ∨ ∃ q xs, y = .ref q ∧ H q = some (.lst xs)
def rOwnL (K : PySem.W.Frag) (cs : List Addr) (sp : Nat → Sp) (E : XK) : R2 := fun x y H Q => ∃ j, j < cs.length ∧ ∃ a dx fs, x = .ref a ∧ H a = some (.ins (cs.getD j 0) dx fs) ∧ OthL K (cs.getD j 0) y H ∧ sp j [x, y] H Q E
theorem eqOwnL {X : Cx} {cs : List Addr} {k i : Nat} {sp : Nat → Sp} {E : XK} (hK : X.K = K) (F : ∀ j, j < cs.length → CmpF X.K (cs.getD j 0)) (B : ∀ j, j < cs.length → Me X.prog X.w X.K X.mg X.base (cs.getD j 0) "__eq__" k ["self", "other"] (sp j)) (hr : Room i X.A) (hx : Passes (L2.CX X.prog X.w) X E) (hk : k ≤ i := by decide) :
    OpR X (compareOp .Eq) (rOwnL K cs sp E) := by
  subst hK
  intro pins s σ H x y v u Q I rx ry h
  obtain ⟨j, hj, a, dx, fs, rfl, ea, ho, q⟩ := h
  obtain ⟨f, fd, h1, h2, G, b⟩ := (B j hj).ex
  obtain rfl : v = Value.ref a := rx
  obtain ⟨od, J⟩ := ins_inst I.hok ea
  obtain ⟨tb, L, nf⟩ : ∃ tb, PySem.W.Looks (model X.prog X.w) s.heap (typeOf u) tb ∧ PySem.W.notFirst X.K (cs.getD j 0) tb = true := by
    rcases ho with ho | ⟨q, xs, rfl, e⟩
    · exact othD_looks (F j hj) I ry ho
    · obtain ⟨P', kx, hP, _⟩ := kit_of I ry (TyX.base (.lst e))
      exact ⟨_, kx.ty _ _ I.kIn hP, List.all_eq_true.mp (F j hj).notF "list" (by simp)⟩
  obtain ⟨mm, Fr⟩ := I.fr
  show wpAny _ _ (richCompare .Eq _ _) _ _ _
  exact PySem.W.cmp_K hr.units0 Fr I.mod.kin J L nf h1 h2 (wpAny_mono (run_fn G (hr.mono hk) b .nil hx I (vs := [.ref a, y]) (.cons (show RelV (.ref a) (.ref a) from rfl) (.cons ry .nil)) (by rw [List.append_nil]; exact q)) (fun w' s' ⟨v', H', I', r', z⟩ => rel_back r' ⟨v', H', I', r', z⟩) fun _ _ z => z)
def spTellP (K : PySem.W.Frag) (gs : List Str) : Sp := fun xs H Q _ => ∃ a C fs vs, xs = [.ref a] ∧ PaAt H a C fs ∧ Cls K C ∧ (∀ g ∈ gs, NoAttr K C g) ∧ gs.map (fun g => fs.lookup g) = vs.map some ∧
  ∀ p H', p ≠ sysModules → H p = none → Ex H H' → H' p = some (.lst vs) → Q (.ref p) H'
structure RowD where
  c : Nat
  fs : List (Str × V)
  gs : List Str
  vs : List V
  B : V
def RowAt (Lm : Hp → Addr → Sp → Prop) (K : PySem.W.Frag) (cs : List Addr) (H : Hp) (x : V) (r : RowD) : Prop := ∃ t e f l, x = .ref t ∧ H t = some (.tup [.ref e, .ref f, .ref l, r.B]) ∧ PaAt H e (cs.getD r.c 0) r.fs ∧ Lm H f (spTellP K r.gs) ∧ H l = some (.lst r.vs) ∧ l ≠ sysModules
theorem RowAt.exN {Lm : Hp → Addr → Sp → Prop} (hL : ∀ H H' f sp, Lm H f sp → ExtN H H' → Lm H' f sp) {cs : List Addr} {x : V} {r : RowD} (h : RowAt Lm K cs H x r) (e : ExtN H H') : RowAt Lm K cs H' x r := by
  obtain ⟨t, e0, f, l, h1, h2, h3, h4, h5, h6⟩ := h
  exact ⟨t, e0, f, l, h1, e _ _ h2 (fun _ z => nomatch z), h3.exN e, hL _ _ _ _ h4 e, e _ _ h5 (fun _ z => nomatch z), h6⟩
theorem s_rowP {Lm : Hp → Addr → Sp → Prop} (hL : ∀ H H' f sp, Lm H f sp → ExtN H H' → Lm H' f sp) {Tt : List (Addr × Str)} {cs : List Addr} {t1 t2 t3 t4 : TE} {tr : TA} {QL : List V → Hp → Prop} (r : RowD) (ht : Tabs Tt H)
    (hE : ∀ (H : Hp) (R : VK), (∀ a H', H a = none → Ex H H' → PaAt H' a (cs.getD r.c 0) r.fs → R (.ref a) H') → t1 σ H R)
    (hF : ∀ (H : Hp) (R : VK), Tabs Tt H → (∀ f H', ExtN H H' → Tabs Tt H' → Lm H' f (spTellP K r.gs) → R (.ref f) H') → t2 σ H R)
    (hD : ∀ (H : Hp) (R : VK), (∀ l H', Ex H H' → H' l = some (.lst r.vs) → l ≠ sysModules → R (.ref l) H') → t3 σ H R)
    (hB : ∀ (H : Hp) (R : VK), R r.B H → t4 σ H R)
    (k : ∀ t H', ExtN H H' → Tabs Tt H' → RowAt Lm K cs H' (.ref t) r → tr σ H' fun xs H2 => QL (.ref t :: xs) H2) :
    tCons (tTup (tCons t1 (tCons t2 (tCons t3 (tCons t4 tNil))))) tr σ H QL := by
  refine hE H _ fun a H1 _ e1 ea => hF H1 _ (ht.ext e1) fun f H2 e2 t2 lf => hD H2 _ fun l H3 e3 hl nl => hB H3 _ ⟨(show 4 ≤ sizeLine by decide), fun t htn => ?_⟩
  have e4 : Ex H3 (upd H3 t (.tup [.ref a, .ref f, .ref l, r.B])) := ex_new htn
  have e14 : ExtN H1 (upd H3 t (.tup [.ref a, .ref f, .ref l, r.B])) := e2.trans (e3.trans e4).n
  exact k t _ (e1.n.trans e14) ((t2.ext e3).ext e4) ⟨t, a, f, l, rfl, upd_same, ea.exN e14, hL _ _ _ _ lf (e3.trans e4).n, e4 _ _ hl, nl⟩
theorem s_tellP {v : V} {gs : List Str} {E : XK} (h : spTellP K gs [v] H Q E) : ∃ a C fs vs, v = .ref a ∧ PaAt H a C fs ∧ Cls K C ∧ (∀ g ∈ gs, NoAttr K C g) ∧ gs.map (fun g => fs.lookup g) = vs.map some ∧ ∀ p H', p ≠ sysModules → H p = none → Ex H H' → H' p = some (.lst vs) → Q (.ref p) H' := by
  obtain ⟨a, C, fs, vs, ⟨⟩, h⟩ := h
  exact ⟨a, C, fs, vs, rfl, h⟩
theorem s_tp1 {v : V} {g1 : Str} {E : XK} (h : spTellP K [g1] [v] H Q E) : tLstN (tCons (tFld K (tVar 0) g1) tNil) [some v] H Q := by
  obtain ⟨a, C, fs, vs, rfl, ⟨dx, ea⟩, cl, hno, hm, k⟩ := s_tellP h
  have hlen : vs.length = 1 := by simpa using (congrArg List.length hm).symm
  match vs, hm, hlen, k with
  | [x1], hm, _, k => exact ⟨_, rfl, a, C, dx, fs, x1, rfl, ea, cl, hno _ (by simp), by simpa using hm, (show 1 ≤ sizeLine by decide), fun p hp np => k p _ np hp (ex_new hp) upd_same⟩
theorem s_tp2 {v : V} {g1 g2 : Str} {E : XK} (h : spTellP K [g1, g2] [v] H Q E) : tLstN (tCons (tFld K (tVar 0) g1) (tCons (tFld K (tVar 0) g2) tNil)) [some v] H Q := by
  obtain ⟨a, C, fs, vs, rfl, ⟨dx, ea⟩, cl, hno, hm, k⟩ := s_tellP h
  have hlen : vs.length = 2 := by simpa using (congrArg List.length hm).symm
  match vs, hm, hlen, k with
  | [x1, x2], hm, _, k =>
    have hm' : fs.lookup g1 = some x1 ∧ fs.lookup g2 = some x2 := by simpa using hm
    exact ⟨_, rfl, a, C, dx, fs, x1, rfl, ea, cl, hno _ (by simp), hm'.1, _, rfl, a, C, dx, fs, x2, rfl, ea, cl, hno _ (by simp), hm'.2, (show 2 ≤ sizeLine by decide), fun p hp np => k p _ np hp (ex_new hp) upd_same⟩
theorem s_tp3 {v : V} {g1 g2 g3 : Str} {E : XK} (h : spTellP K [g1, g2, g3] [v] H Q E) : tLstN (tCons (tFld K (tVar 0) g1) (tCons (tFld K (tVar 0) g2) (tCons (tFld K (tVar 0) g3) tNil))) [some v] H Q := by
  obtain ⟨a, C, fs, vs, rfl, ⟨dx, ea⟩, cl, hno, hm, k⟩ := s_tellP h
  have hlen : vs.length = 3 := by simpa using (congrArg List.length hm).symm
  match vs, hm, hlen, k with
  | [x1, x2, x3], hm, _, k =>
    have hm' : fs.lookup g1 = some x1 ∧ fs.lookup g2 = some x2 ∧ fs.lookup g3 = some x3 := by simpa using hm
    exact ⟨_, rfl, a, C, dx, fs, x1, rfl, ea, cl, hno _ (by simp), hm'.1, _, rfl, a, C, dx, fs, x2, rfl, ea, cl, hno _ (by simp), hm'.2.1, _, rfl, a, C, dx, fs, x3, rfl, ea, cl, hno _ (by simp), hm'.2.2, (show 3 ≤ sizeLine by decide), fun p hp np => k p _ np hp (ex_new hp) upd_same⟩
end
theorem units66 {k : Nat} {A : Around} (r : Room k A) : A.units + 66 < cLine := by have := r.un; omega
end L3
end
section
local macro_rules | `(tactic| tm_at "s1") => `(tactic| first
  | with_reducible first
    | refine L3.s_seq ?_ | refine L3.s_asg ?_ | refine L3.s_op ?_ | refine L3.s_c ?_ | refine L3.s_cb ?_ | refine L3.s_cons ?_ | refine L3.s_nil ?_ | refine L3.s_test ?_ | refine L3.s_bl ?_
    | refine L3.s_I0 ?_ | refine L3.s_and ?_ | refine L3.s_or ?_ | refine L3.s_not ?_ | refine L3.s_if ?_ | refine L3.s_next ?_ | refine L3.s_ret ?_ | refine L3.s_retN ?_ | refine L3.s_asgS ?_ | refine L3.s_drop ?_
    | refine L3.s_un ?_ | refine L3.s_U ?_ | refine L3.s_int ?_ | refine L3.s_intB ?_ | refine L3.s_abs ?_ | refine L3.s_andV ?_ | refine L3.s_orV ?_ | refine L3.s_notV ?_ | refine L3.s_ifE ?_ | refine L3.s_call ?_ | refine L3.s_lst ?_ | refine L3.s_tup ?_ | refine L3.s_tB ?_
    | refine L3.s_addI ?_ | refine L3.s_inS ?_ | refine L3.s_ninS ?_ | refine L3.s_slice ?_ | refine L3.s_part ?_ | refine L3.s_partI ?_ | refine L3.s_nopart ?_ | refine L3.s_cI ?_ | refine L3.s_cB ?_ | refine L3.s_chain ?_ | refine L3.s_bm ?_ | refine L3.s_lcS ?_ | refine L3.s_lcR ?_ | refine L3.s_strE ?_
    | refine L2.iteT ?_ | refine L2.iteF ?_ | refine L3.iteNF ?_ | refine L3.iteNT ?_
    | refine L3.s_eqI ?_ | refine L3.s_neI ?_ | refine L3.s_eqS ?_ | refine L3.s_neS ?_
    | refine L3.s_pair ?_ | refine L3.s_pair2 ?_ | refine L3.s_fld ?_ | refine L3.s_make ?_ | refine L3.s_m1 ?_ | refine L3.s_isstr ?_
    | refine L3.s_xfV ?_ | refine L3.s_lstN ?_ | refine L3.s_callF ?_ | refine L3.s_lcL ?_ | refine L3.s_par3 ?_ | refine L3.s_trip ?_ | refine L3.s_asgT' ?_ | refine L3.s_gC ?_ | refine L3.s_gN ?_ | refine L3.s_fldG ?_ | refine L3.s_raise1 ?_
    | refine L3.s_isN ?_ | refine L3.s_isB ?_ | refine L3.s_nisN ?_ | refine L3.s_nisB ?_
  | ((with_reducible refine' L3.s_var ?e ?_); (case e => rfl))
  | ((with_reducible refine' L3.s_aug ?e ?_); (case e => rfl))
  | ((with_reducible refine' L3.s_pow ?c ?_); (case c => exact ⟨by decide, by decide, by decide⟩)))
local macro_rules | `(tactic| tm_at "s") => `(tactic| repeat tm_at "s1")
namespace K03
open PySem PySem.Spec PyProof.Rows L2 L3 LamX
def topS (i : Nat) : Stmt := PySem.Challenge.pw_latechunks_k03_papers_of_all_kinds.main.body.getD i (.Pass ⟨0, 0, 0, 0⟩)
def fldsL : List (List Str) := [["chunks"], ["rests"], ["total", "chunks"], ["limit", "chunks", "below"], ["late", "rest", "spot"], ["spot", "rise"], ["begins"], ["rest"], ["begins"], ["rest"], ["first", "last"], ["rest"], ["never", "steady"], ["total", "counts"], ["upto"], ["late", "rest"], ["residue", "begin"], ["table"], ["rest", "late"], ["late", "at", "world"], ["worker", "at", "begun", "ended"], ["world"], ["at", "why"], ["workers"], ["least", "most"], ["names", "late", "last"], ["loop", "worker", "many", "begun", "ended"]]
abbrev flds (j : Nat) : List Str := fldsL.getD j []
def denL : List Bool := [false, true, false, false, false, true, false, true, false, true, false, true, false, true, true, false, true, false, true, false, false, false, true, true, false, false, false]
abbrev den (j : Nat) : Bool := denL.getD j false
structure Txt (K : PySem.W.Frag) (mg : Str → Option Value) (cs : List Addr) (CP CD fb : Addr) : Prop where
  b_isinstance : mg "isinstance" = none
  b_int : mg "int" = none
  b_len : mg "len" = none
  b_abs : mg "abs" = none
  b_list : mg "list" = none
  b_range : mg "range" = none
  b_repr : mg "repr" = none
  b_bool : mg "bool" = none
  g_Paper : ∃ u, mg "Paper" = some u ∧ RelV (.ref CP) u
  g_Denial : ∃ u, mg "Denial" = some u ∧ RelV (.ref CD) u
  g_Fewest : ∃ u, mg "Fewest" = some u ∧ RelV (.ref (cs.getD 0 0)) u
  g_NoList : ∃ u, mg "NoList" = some u ∧ RelV (.ref (cs.getD 1 0)) u
  g_Greatest : ∃ u, mg "Greatest" = some u ∧ RelV (.ref (cs.getD 2 0)) u
  g_Least : ∃ u, mg "Least" = some u ∧ RelV (.ref (cs.getD 3 0)) u
  g_BatchBound : ∃ u, mg "BatchBound" = some u ∧ RelV (.ref (cs.getD 4 0)) u
  g_BatchEndless : ∃ u, mg "BatchEndless" = some u ∧ RelV (.ref (cs.getD 5 0)) u
  g_NeverLess : ∃ u, mg "NeverLess" = some u ∧ RelV (.ref (cs.getD 6 0)) u
  g_Less : ∃ u, mg "Less" = some u ∧ RelV (.ref (cs.getD 7 0)) u
  g_Steady : ∃ u, mg "Steady" = some u ∧ RelV (.ref (cs.getD 8 0)) u
  g_Jump : ∃ u, mg "Jump" = some u ∧ RelV (.ref (cs.getD 9 0)) u
  g_Same : ∃ u, mg "Same" = some u ∧ RelV (.ref (cs.getD 10 0)) u
  g_Other : ∃ u, mg "Other" = some u ∧ RelV (.ref (cs.getD 11 0)) u
  g_Surely : ∃ u, mg "Surely" = some u ∧ RelV (.ref (cs.getD 12 0)) u
  g_Counter : ∃ u, mg "Counter" = some u ∧ RelV (.ref (cs.getD 13 0)) u
  g_Undecided : ∃ u, mg "Undecided" = some u ∧ RelV (.ref (cs.getD 14 0)) u
  g_Bound : ∃ u, mg "Bound" = some u ∧ RelV (.ref (cs.getD 15 0)) u
  g_Endless : ∃ u, mg "Endless" = some u ∧ RelV (.ref (cs.getD 16 0)) u
  g_Within : ∃ u, mg "Within" = some u ∧ RelV (.ref (cs.getD 17 0)) u
  g_Beyond : ∃ u, mg "Beyond" = some u ∧ RelV (.ref (cs.getD 18 0)) u
  g_Latest : ∃ u, mg "Latest" = some u ∧ RelV (.ref (cs.getD 19 0)) u
  g_Taking : ∃ u, mg "Taking" = some u ∧ RelV (.ref (cs.getD 20 0)) u
  g_Fits : ∃ u, mg "Fits" = some u ∧ RelV (.ref (cs.getD 21 0)) u
  g_Misfit : ∃ u, mg "Misfit" = some u ∧ RelV (.ref (cs.getD 22 0)) u
  g_Ring : ∃ u, mg "Ring" = some u ∧ RelV (.ref (cs.getD 23 0)) u
  g_Came : ∃ u, mg "Came" = some u ∧ RelV (.ref (cs.getD 24 0)) u
  g_BestOrder : ∃ u, mg "BestOrder" = some u ∧ RelV (.ref (cs.getD 25 0)) u
  g_PoolTaking : ∃ u, mg "PoolTaking" = some u ∧ RelV (.ref (cs.getD 26 0)) u
  len : cs.length = 27
  cl : ∀ j, j < 27 → Cls K (cs.getD j 0)
  tyf : ∀ j, j < 27 → PySem.W.findIn K (.ref (cs.getD j 0)) "__class__" = some (some (.builtin "object.__class__")) ∧ PySem.W.mroIn K (cs.getD j 0) (.type "object") = some true
  hn : PySem.W.specialIn K (.builtin "object.__class__") "__get__" = some (some (.builtin "getset_descriptor.__get__"))
  htk : PySem.W.takesIn K (.builtin "object.__class__") = some true
  kit : ∀ i j, i < 27 → j < 27 → PySem.W.kitOne K (.ref (cs.getD i 0)) (.ref (cs.getD j 0)) = some (decide (i = j))
  kitP : ∀ i, i < 27 → PySem.W.kitOne K (.ref (cs.getD i 0)) (.ref CP) = some true
  kitD : ∀ i, i < 27 → PySem.W.kitOne K (.ref (cs.getD i 0)) (.ref CD) = some (den i)
  kitLs : ∀ i, i < 27 → PySem.W.kitOne K (.type "list") (.ref (cs.getD i 0)) = some false
  fld : ∀ j, j < 27 → ∀ g ∈ flds j, NoAttr K (cs.getD j 0) g
  cmp : ∀ j, j < 27 → CmpF K (cs.getD j 0)
  nf : ∀ i j, i < 27 → j < 27 → PySem.W.notFirst K (cs.getD i 0) (.ref (cs.getD j 0)) = true
  bo : ∀ j, j < 27 → (den j = false ∧ PySem.W.findIn K (.ref (cs.getD j 0)) "__bool__" = some none ∧ PySem.W.findIn K (.ref (cs.getD j 0)) "__len__" = some none) ∨ (den j = true ∧ PySem.W.findIn K (.ref (cs.getD j 0)) "__bool__" = some (some (.ref fb)))
theorem Txt.ty {K : PySem.W.Frag} {mg : Str → Option Value} {cs : List Addr} {CP CD fb : Addr} (T : Txt K mg cs CP CD fb) {j : Nat} (hj : j < 27) {H : Hp} {p dx : Addr} {fs : List (Str × V)} (e : H p = some (.ins (cs.getD j 0) dx fs)) : TyA K H (.ref p) (.ref (cs.getD j 0)) :=
  .x (.base (.ins e (T.cl j hj) (T.tyf j hj).1 T.hn T.htk (T.tyf j hj).2))
theorem Txt.kC {K : PySem.W.Frag} {mg : Str → Option Value} {cs : List Addr} {CP CD fb : Addr} (T : Txt K mg cs CP CD fb) {j : Nat} (hj : j < 27) : PySem.W.kitOne K (.ref (cs.getD j 0)) (.ref (cs.getD j 0)) = some true := by rw [T.kit j j hj hj, decide_eq_true rfl]
abbrev s__law_pen : Stmt := topS 40
theorem sc__law_pen : FnScope ["_law_script"] ["_law_script"] (defScope s__law_pen) := ⟨rfl, rfl, rfl, by decide +kernel, rfl, by decide +kernel, by decide +kernel⟩
abbrev s__law_draw : Stmt := topS 41
theorem sc__law_draw : FnScope ["_law_pen_here", "_law_many", "_law_digit", "_law_spot", "_law_cell", "_law_great", "_law_stirred"] ["_law_pen_here", "_law_many"] (defScope s__law_draw) := ⟨rfl, rfl, rfl, by decide +kernel, rfl, by decide +kernel, by decide +kernel⟩
abbrev s__law_pick : Stmt := topS 42
theorem sc__law_pick : FnScope ["_law_pen_here", "_law_some"] ["_law_pen_here", "_law_some"] (defScope s__law_pick) := ⟨rfl, rfl, rfl, by decide +kernel, rfl, by decide +kernel, by decide +kernel⟩
section
variable {P : Program} {w : World} {K : PySem.W.Frag} {mg : Str → Option Value} {base : Heap} {cs : List Addr} {CP CD fb : Addr}
theorem ok_pen {f : Addr} {fd : FuncData} (F : Fun K "_law_pen" "_law_pen" s__law_pen f fd) (T : Txt K mg cs CP CD fb) : FnG P w K mg base CX0 1 f fd ["_law_script"] (spPen K) := by
  refine funG F sc__law_pen (fun vs H Q E h => ?_) (fun cd A fr s H vs Q E hr hg h => ?_)
  · obtain ⟨a, ns, rfl, _⟩ := h; rfl
  · obtain ⟨a, ns, rfl, hs, hl, k⟩ := h
    refine ⟨_, pss_penNew ((pss_one (ps_ret (pe_lst (pa_cons (pe_callTy (KX.callList (K := K) rfl rfl) (by rfl) T.b_list (by decide +kernel) (pa_cons (pe_slice (KX.slU (K := K)) (pv 0) po_none (po_some pe_int)) pa_nil)) (pa_cons pe_int (pa_cons pe_int pa_nil))))))), ?_⟩
    show (tRet _ : TS) _ _ _
    tm_at "s"
    refine s_slL hs fun q H1 hq e1 h1 => ?_
    tm_at "s"
    refine s_listL (.inl (.inl h1)) fun l H2 hl2 e2 h2 => ?_
    tm_at "s"
    refine s_new (Nat.le_of_lt (small1000 (by simp))) fun p H3 hp e3 h3 => ?_
    have hH : H p = none := e1.free (e2.free hp)
    have nlp : l ≠ p := ne_of_none h2 hp
    have hHl : H l = none := e1.free hl2
    refine ⟨p, l, 0, ns.take 63, rfl, h3, ?_, nlp, k p _ hH (fun b o hb => ?_) ⟨l, ns.take 63, ?_, upd_same, ?_, nlp⟩⟩
    · rw [e3 _ _ h2]
      have : cutV (ns.map V.int) none (some 63) = (ns.take 63).map V.int := by
        unfold cutV
        show ((ns.map V.int).drop 0).take (HT.sIx (ns.map V.int).length (ns.map V.int).length (some (63 : Nat)) - 0) = _
        rw [HT.sIx_nat, List.drop_zero, List.length_map, Nat.sub_zero, List.map_take]
        rw [List.take_eq_take_iff]
        simp
      rw [this]
    · rw [upd_ne (ne_of_none hb hHl), upd_ne (ne_of_none hb hH)]
      exact e3 _ _ (e2 _ _ (e1 _ _ hb))
    · rw [upd_ne (Ne.symm nlp)]; exact upd_same
    · rw [List.length_take]; omega
theorem drawC : DrawC 93049 925 2147437957 84055 523 2147427967 137 71043 125 2147417983 := ⟨by decide, by decide, by decide, by decide, by decide, by decide, by decide, by decide, by decide⟩
theorem ok_draw {f : Addr} {fd : FuncData} (F : Fun K "_law_draw" "_law_draw" s__law_draw f fd) (T : Txt K mg cs CP CD fb) : FnG P w K mg base CX0 1 f fd ["_law_pen_here", "_law_many"] spDraw := by
  refine funG F sc__law_draw (fun vs H Q E h => ?_) (fun cd A fr s H vs Q E hr hg h => ?_)
  · obtain ⟨a, n, many, rfl, _⟩ := h; rfl
  · obtain ⟨a, n, many, rfl, hm, hm2, ⟨c, ns, ha, hc, hl⟩, hn, k⟩ := h
    refine ⟨_, pss_sc c ns (pss_pen a c n (n + 1) ((pss_cons (ps_if (pt_cmpR op_gt (pe_ix (KX.ixU (K := K)) (pv 0) pe_int (fun _ _ => rfl)) pe_int (nomark _)) (pss_cons (ps_set (i := 2) sc__law_draw.nd rfl (Or.inl rfl) (pe_op op_mod (pe_callTy (KX.callInt (K := K)) (by rfl) T.b_int (by decide +kernel) (pa_cons (pe_ix (KX.ixU (K := K)) (pv 0) pe_int (fun _ _ => rfl)) pa_nil)) (pv 1)))
      (pss_cons (ps_asg (pe_op op_fdivW (pe_callTy (KX.callInt (K := K)) (by rfl) T.b_int (by decide +kernel) (pa_cons (pe_ix (KX.ixU (K := K)) (pv 0) pe_int (fun _ _ => rfl)) pa_nil)) (pv 1)) (pg_sub (pv 0) pe_int set_list))
      (pss_one (ps_ret (pv 2))))) pss_nil)
      (pss_cons (ps_set (i := 3) sc__law_draw.nd rfl (Or.inl rfl) (pe_ix (KX.ixU (K := K)) (pv 0) pe_int (fun _ _ => rfl)))
      (pss_cons (ps_asg (pe_op opAdd (pv 3) pe_int) (pg_sub (pv 0) pe_int set_list))
      (pss_cons (ps_set (i := 4) sc__law_draw.nd rfl (Or.inl rfl) (pe_op opAdd (pe_op opMul pe_int (pv 3)) pe_int))
      (Evl.pss_cut (ps_if (pt_cmpR (KX.neU (K := K) rfl hr.units) (pe_ix (KX.ixU (K := K)) (pv 0) pe_int (fun _ _ => rfl)) (pe_lst pa_nil) (nomark _)) (pss_one (ps_set (i := 4) sc__law_draw.nd rfl (Or.inl rfl) (pe_ix (KX.ixU (K := K)) (pe_ix (KX.ixU (K := K)) (pv 0) pe_int (fun _ _ => rfl)) (pe_op op_mod (pe_callTy (KX.callInt (K := K)) (by rfl) T.b_int (by decide +kernel) (pa_cons (pv 3) pa_nil)) (pe_callB (KX.callLen (K := K)) (by rfl) T.b_len (by decide +kernel) (pa_cons (pe_ix (KX.ixU (K := K)) (pv 0) pe_int (fun _ _ => rfl)) pa_nil))) (fun _ _ => rfl)))) pss_nil)
      (pss_cons (ps_if (PW.pt (pw_and (pt_cmpR op_lt (pv 3) (pe_callB (KX.callLen (K := K)) (by rfl) T.b_len (by decide +kernel) (pa_cons (pe_ix (KX.ixU (K := K)) (pv 0) pe_int (fun _ _ => rfl)) pa_nil)) (nomark _)) (pw_and1 (pt_cmpR op_ge (pe_callB call_abs (by rfl) T.b_abs (by decide +kernel) (pa_cons (pv 4) pa_nil)) (pe_op op_pow pe_int pe_int) (nomark _))))) (pss_cons (ps_set (i := 5) sc__law_draw.nd rfl (Or.inl rfl) (pe_op opAdd (pe_op opMul pe_int (pe_op op_sub (pe_callB call_abs (by rfl) T.b_abs (by decide +kernel) (pa_cons (pv 4) pa_nil)) (pe_op op_pow pe_int pe_int))) (pe_callTy (KX.callInt (K := K)) (by rfl) T.b_int (by decide +kernel) (pa_cons (pe_cmpR op_lt (pv 4) pe_int (nomark _)) pa_nil))))
      (pss_cons (ps_asg (pe_op op_fdivW (pe_callTy (KX.callInt (K := K)) (by rfl) T.b_int (by decide +kernel) (pa_cons (pv 5) pa_nil)) (pv 1)) (pg_sub (pv 0) pe_int set_list))
      (pss_one (ps_ret (pe_op op_mod (pe_callTy (KX.callInt (K := K)) (by rfl) T.b_int (by decide +kernel) (pa_cons (pv 5) pa_nil)) (pv 1)))))) pss_nil)
      (pss_cons (ps_set (i := 6) sc__law_draw.nd rfl (Or.inl rfl) (pe_op op_mod (pe_callTy (KX.callInt (K := K)) (by rfl) T.b_int (by decide +kernel) (pa_cons (pe_op op_pow (pe_op opAdd (pe_op opAdd (pe_op op_mod (pe_callTy (KX.callInt (K := K)) (by rfl) T.b_int (by decide +kernel) (pa_cons (pv 4) pa_nil)) pe_int) (pe_op opMul pe_int (pv 3))) pe_int) pe_int) pa_nil)) pe_int))
      (pss_cons (ps_set (i := 6) sc__law_draw.nd rfl (Or.inl rfl) (pe_op op_mod (pe_callTy (KX.callInt (K := K)) (by rfl) T.b_int (by decide +kernel) (pa_cons (pe_op op_pow (pe_op opAdd (pe_op opAdd (pe_op opMul (pv 6) (pe_op opAdd (pe_op opMul pe_int (pv 3)) pe_int)) (pe_op opMul (pe_op opMul pe_int (pv 3)) (pv 3))) pe_int) pe_int) pa_nil)) pe_int))
      (pss_one (ps_ret (pe_op op_mod (pe_callTy (KX.callInt (K := K)) (by rfl) T.b_int (by decide +kernel) (pa_cons (pe_op op_fdivW (pv 6) pe_int) pa_nil)) (pv 1)))))))))))))), ?_⟩
    exact rd_drawS drawC hm hm2 ha hc hn hl k
theorem ok_pick {f : Addr} {fd : FuncData} (F : Fun K "_law_pick" "_law_pick" s__law_pick f fd) (T : Txt K mg cs CP CD fb) (c__law_draw : Fn P w K mg base CX0 1 "_law_draw" ["_law_pen_here", "_law_many"] spDraw) :
    FnG P w K mg base CX0 2 f fd ["_law_pen_here", "_law_some"] spPick := by
  refine funG F sc__law_pick (fun vs H Q E h => ?_) (fun cd A fr s H vs Q E hr hg h => ?_)
  · obtain ⟨a, l, n, xs, rfl, _⟩ := h; rfl
  · obtain ⟨a, l, n, xs, rfl, hl, hne, hlen, hp, hn, k⟩ := h
    refine ⟨_, (pss_one (ps_ret (pe_ix (KX.ixU (K := K)) (pv 1) (pe_f c__law_draw hr hg pass0 (pa_cons (pv 0) (pa_cons (pe_callB (KX.callLen (K := K)) (by rfl) T.b_len (by decide +kernel) (pa_cons (pv 1) pa_nil)) pa_nil))) (fun _ _ => rfl)))), ?_⟩
    tm_at "s"
    refine s_lenL hl ?_
    have hpos : 0 < xs.length := List.length_pos_iff.mpr hne
    refine ⟨a, n, _, rfl, by omega, ?_, hp, hn, fun d H' d0 d1 hp' hk => ?_⟩
    · rw [Int.natAbs_natCast]
      exact Nat.lt_of_le_of_lt hlen (Nat.lt_of_lt_of_le (by decide : 100000 < 2 ^ 20) (Nat.pow_le_pow_right (by decide) (by decide)))
    · have nl : l ≠ a := hp.ne hl fun c n z => by unfold PenO at z; cases z
      have hd : d.toNat < xs.length := by omega
      refine s_iL (v := xs[d.toNat]) (hk l _ nl hl) (by rw [atI_int d0 d1, List.getElem?_eq_getElem hd]) ?_
      exact k _ _ (List.getElem_mem hd) hp' hk
def spValue (Tt : List (Addr × Str)) : Sp := fun vs H Q _ => ∃ p n, vs = [.ref p] ∧ Wo Tt H p n ∧ n < lim ∧ ∀ v d H', Wo Tt H' p (n + 1) → (∀ b o, b ≠ p → H b = some o → H' b = some o) → Vd H' v d → v ≠ .ref p → VOk d → VSh d → Q v H'
abbrev s__law_value : Stmt := topS 43
theorem sc__law_value : FnScope ["_law_pen_here", "_law_some"] ["_law_pen_here"] (defScope s__law_value) := ⟨rfl, rfl, rfl, by decide +kernel, rfl, by decide +kernel, by decide +kernel⟩
theorem vok {d : PyData} (h : (d.showable && (decide (d.depth ≤ 3) && decide (d.shown.length ≤ 1000))) = true) : VOk d := by
  simp only [Bool.and_eq_true, decide_eq_true_eq] at h
  exact ⟨h.1, h.2.1, h.2.2⟩
theorem ok_value {f : Addr} {fd : FuncData} {Tt : List (Addr × Str)} (F : Fun K "_law_value" "_law_value" s__law_value f fd) (T : Txt K mg cs CP CD fb) (c__law_pick : Fn P w K mg base CX0 2 "_law_pick" ["_law_pen_here", "_law_some"] spPick) :
    FnG P w K mg base CX0 3 f fd ["_law_pen_here"] (spValue Tt) := by
  refine funG F sc__law_value (fun vs H Q E h => ?_) (fun cd A fr s H vs Q E hr hg h => ?_)
  · obtain ⟨p, n, rfl, _⟩ := h; rfl
  · obtain ⟨p, n, rfl, W, hn, k⟩ := h
    refine ⟨_, (pss_cons (ps_set (i := 1) sc__law_value.nd rfl (Or.inl rfl) (pe_lstN (pa_cons pe_non (pa_cons pe_bl (pa_cons pe_bl (pa_cons pe_int (pa_cons pe_int (pa_cons pe_int (pa_cons (pe_un un_neg pe_int) (pa_cons (pe_op op_pow pe_int pe_int) (pa_cons pe_str (pa_cons pe_str (pa_cons pe_str (pa_cons (pe_tup pa_nil) (pa_cons (pe_tup (pa_cons pe_str (pa_cons pe_int pa_nil))) (pa_cons (pe_lstN pa_nil) (pa_cons (pe_lstN (pa_cons pe_str pa_nil)) (pa_cons pe_dnewK (pa_cons (pe_disp (pps_cons pe_str pe_str pps_nil) (by rfl) (by rfl) (fun z => by cases z) (by decide)) (pa_cons pe_str pa_nil))))))))))))))))))))
      (pss_one (ps_ret (pe_f c__law_pick hr hg pass0 (pa_cons (pv 0) (pa_cons (pv 1) pa_nil)))))), ?_⟩
    tm_at "s"
    refine s_new (Nat.le_of_lt (small1000 (by simp))) fun q1 H1 hq1 e1 h1 => ?_
    tm_at "s"
    refine s_new (Nat.le_of_lt (small1000 (by simp))) fun q2 H2 hq2 e2 h2 => ?_
    tm_at "s"
    refine s_newN (Nat.le_of_lt (small1000 (by simp))) fun q3 H3 hq3 n3 e3 h3 => ?_
    tm_at "s"
    refine s_newN (Nat.le_of_lt (small1000 (by simp))) fun q4 H4 hq4 n4 e4 h4 => ?_
    tm_at "s"
    refine s_dnew fun q5 H5 hq5 e5 h5 => ?_
    tm_at "s"
    refine s_disp1 (k := .inr "a") (v' := .str "b") (fun _ _ h => h) (fun _ _ h => h) fun q6 H6 hq6 e6 h6 => ?_
    tm_at "s"
    refine s_newN (Nat.le_of_lt (small1000 (by simp))) fun q7 H7 hq7 n7 e7 h7 => ?_
    tm_at "s"
    have W7 := W.ex ((((((e1.trans e2).trans e3).trans e4).trans e5).trans e6).trans e7)
    have g1 := e7 _ _ (e6 _ _ (e5 _ _ (e4 _ _ (e3 _ _ (e2 _ _ h1)))))
    have g2 := e7 _ _ (e6 _ _ (e5 _ _ (e4 _ _ (e3 _ _ h2))))
    have g3 := e7 _ _ (e6 _ _ (e5 _ _ (e4 _ _ h3)))
    have g4 := e7 _ _ (e6 _ _ (e5 _ _ h4))
    have g5 := e7 _ _ (e6 _ _ h5)
    have g6 := e7 _ _ h6
    have ntp : ∀ {q : Addr} {o : HO}, H7 q = some o → (∀ c n, o ≠ PenO p c n) → q ≠ p := fun {q o} e d => W7.pen.ne e d
    have m1 := ntp g1 fun c n z => by unfold PenO at z; cases z
    have m2 := ntp g2 fun c n z => by unfold PenO at z; cases z
    have m3 := ntp g3 fun c n z => by unfold PenO at z; cases z
    have m4 := ntp g4 fun c n z => by unfold PenO at z; cases z
    have m5 := ntp g5 fun c n z => by unfold PenO at z; cases z
    have m6 := ntp g6 fun c n z => by unfold PenO at z; cases z
    refine ⟨p, q7, n, _, rfl, h7, by simp, by simp, W7.pen, hn, fun v H8 hv p8 k8 => ?_⟩
    have W8 := W7.keep p8 k8
    have kk : ∀ b o, b ≠ p → H b = some o → H8 b = some o := fun b o nb e => k8 _ _ nb (e7 _ _ (e6 _ _ (e5 _ _ (e4 _ _ (e3 _ _ (e2 _ _ (e1 _ _ e)))))))
    simp only [List.mem_cons, List.not_mem_nil, or_false] at hv
    rcases hv with rfl | rfl | rfl | rfl | rfl | rfl | rfl | rfl | rfl | rfl | rfl | rfl | rfl | rfl | rfl | rfl | rfl | rfl
    · exact k _ _ _ W8 kk .non (fun z => nomatch z) (vok (by decide +kernel)) ⟨by decide +kernel⟩
    · exact k _ _ _ W8 kk (.bl _) (fun z => nomatch z) (vok (by decide +kernel)) ⟨by decide +kernel⟩
    · exact k _ _ _ W8 kk (.bl _) (fun z => nomatch z) (vok (by decide +kernel)) ⟨by decide +kernel⟩
    · exact k _ _ _ W8 kk (.int _) (fun z => nomatch z) (vok (by decide +kernel)) ⟨by decide +kernel⟩
    · exact k _ _ _ W8 kk (.int _) (fun z => nomatch z) (vok (by decide +kernel)) ⟨by decide +kernel⟩
    · exact k _ _ _ W8 kk (.int _) (fun z => nomatch z) (vok (by decide +kernel)) ⟨by decide +kernel⟩
    · exact k _ _ _ W8 kk (.int _) (fun z => nomatch z) (vok (by decide +kernel)) ⟨by decide +kernel⟩
    · exact k _ _ _ W8 kk (.int _) (fun z => nomatch z) (vok (by decide +kernel)) ⟨by decide +kernel⟩
    · exact k _ _ _ W8 kk (.str _) (fun z => nomatch z) (vok (by decide +kernel)) ⟨by decide +kernel⟩
    · exact k _ _ _ W8 kk (.str _) (fun z => nomatch z) (vok (by decide +kernel)) ⟨by decide +kernel⟩
    · exact k _ _ _ W8 kk (.str _) (fun z => nomatch z) (vok (by decide +kernel)) ⟨by decide +kernel⟩
    · exact k _ _ _ W8 kk (.tup (k8 _ _ m1 g1) (by decide +kernel)) (fun z => m1 (V.ref.inj z)) (vok (by decide +kernel)) ⟨by decide +kernel⟩
    · exact k _ _ _ W8 kk (.tup (k8 _ _ m2 g2) (by decide +kernel)) (fun z => m2 (V.ref.inj z)) (vok (by decide +kernel)) ⟨by decide +kernel⟩
    · exact k _ _ _ W8 kk (.lst (k8 _ _ m3 g3) n3 (by decide +kernel)) (fun z => m3 (V.ref.inj z)) (vok (by decide +kernel)) ⟨by decide +kernel⟩
    · exact k _ _ _ W8 kk (.lst (k8 _ _ m4 g4) n4 (by decide +kernel)) (fun z => m4 (V.ref.inj z)) (vok (by decide +kernel)) ⟨by decide +kernel⟩
    · exact k _ _ _ W8 kk (.d0 (k8 _ _ m5 g5)) (fun z => m5 (V.ref.inj z)) (vok (by decide +kernel)) ⟨by decide +kernel⟩
    · exact k _ _ _ W8 kk (.d1 (k8 _ _ m6 g6)) (fun z => m6 (V.ref.inj z)) (vok (by decide +kernel)) ⟨by decide +kernel⟩
    · exact k _ _ _ W8 kk (.str _) (fun z => nomatch z) (vok (by decide +kernel)) ⟨by decide +kernel⟩
end
end K03
end
section
local macro_rules | `(tactic| tm_at "s1") => `(tactic| first
  | with_reducible first
    | refine L3.s_seq ?_ | refine L3.s_asg ?_ | refine L3.s_op ?_ | refine L3.s_c ?_ | refine L3.s_cb ?_ | refine L3.s_cons ?_ | refine L3.s_nil ?_ | refine L3.s_test ?_ | refine L3.s_bl ?_
    | refine L3.s_I0 ?_ | refine L3.s_and ?_ | refine L3.s_or ?_ | refine L3.s_not ?_ | refine L3.s_if ?_ | refine L3.s_next ?_ | refine L3.s_ret ?_ | refine L3.s_retN ?_ | refine L3.s_asgS ?_ | refine L3.s_drop ?_
    | refine L3.s_un ?_ | refine L3.s_U ?_ | refine L3.s_int ?_ | refine L3.s_intB ?_ | refine L3.s_abs ?_ | refine L3.s_andV ?_ | refine L3.s_orV ?_ | refine L3.s_notV ?_ | refine L3.s_ifE ?_ | refine L3.s_call ?_ | refine L3.s_lst ?_ | refine L3.s_tup ?_ | refine L3.s_tB ?_
    | refine L3.s_addI ?_ | refine L3.s_inS ?_ | refine L3.s_ninS ?_ | refine L3.s_slice ?_ | refine L3.s_part ?_ | refine L3.s_partI ?_ | refine L3.s_nopart ?_ | refine L3.s_cI ?_ | refine L3.s_cB ?_ | refine L3.s_chain ?_ | refine L3.s_bm ?_ | refine L3.s_lcS ?_ | refine L3.s_lcR ?_ | refine L3.s_strE ?_
    | refine L2.iteT ?_ | refine L2.iteF ?_ | refine L3.iteNF ?_ | refine L3.iteNT ?_
    | refine L3.s_eqI ?_ | refine L3.s_neI ?_ | refine L3.s_eqS ?_ | refine L3.s_neS ?_
    | refine L3.s_pair ?_ | refine L3.s_pair2 ?_ | refine L3.s_fld ?_ | refine L3.s_make ?_ | refine L3.s_m1 ?_ | refine L3.s_isstr ?_
    | refine L3.s_xfV ?_ | refine L3.s_lstN ?_ | refine L3.s_callF ?_ | refine L3.s_lcL ?_ | refine L3.s_par3 ?_ | refine L3.s_trip ?_ | refine L3.s_asgT' ?_ | refine L3.s_gC ?_ | refine L3.s_gN ?_ | refine L3.s_fldG ?_ | refine L3.s_raise1 ?_
    | refine L3.s_isN ?_ | refine L3.s_isB ?_ | refine L3.s_nisN ?_ | refine L3.s_nisB ?_
  | ((with_reducible refine' L3.s_var ?e ?_); (case e => rfl))
  | ((with_reducible refine' L3.s_aug ?e ?_); (case e => rfl))
  | ((with_reducible refine' L3.s_pow ?c ?_); (case c => exact ⟨by decide, by decide, by decide⟩)))
local macro_rules | `(tactic| tm_at "s") => `(tactic| repeat tm_at "s1")
namespace K03
open PySem PySem.Spec PyProof.Rows L2 L3 LamX
abbrev s_Fewest___init__ : Stmt := inClass (topS 4) 0
theorem sc_Fewest___init__ : FnScope ["self", "chunks"] ["self", "chunks"] (defScope s_Fewest___init__) := ⟨rfl, rfl, rfl, by decide +kernel, rfl, by decide +kernel, by decide +kernel⟩
abbrev s_NoList___init__ : Stmt := inClass (topS 5) 0
theorem sc_NoList___init__ : FnScope ["self", "rests"] ["self", "rests"] (defScope s_NoList___init__) := ⟨rfl, rfl, rfl, by decide +kernel, rfl, by decide +kernel, by decide +kernel⟩
abbrev s_Greatest___init__ : Stmt := inClass (topS 6) 0
theorem sc_Greatest___init__ : FnScope ["self", "total", "chunks"] ["self", "total", "chunks"] (defScope s_Greatest___init__) := ⟨rfl, rfl, rfl, by decide +kernel, rfl, by decide +kernel, by decide +kernel⟩
abbrev s_Least___init__ : Stmt := inClass (topS 7) 0
theorem sc_Least___init__ : FnScope ["self", "limit", "chunks", "below"] ["self", "limit", "chunks", "below"] (defScope s_Least___init__) := ⟨rfl, rfl, rfl, by decide +kernel, rfl, by decide +kernel, by decide +kernel⟩
abbrev s_BatchBound___init__ : Stmt := inClass (topS 9) 0
theorem sc_BatchBound___init__ : FnScope ["self", "late", "rest", "spot"] ["self", "late", "rest", "spot"] (defScope s_BatchBound___init__) := ⟨rfl, rfl, rfl, by decide +kernel, rfl, by decide +kernel, by decide +kernel⟩
abbrev s_BatchEndless___init__ : Stmt := inClass (topS 10) 0
theorem sc_BatchEndless___init__ : FnScope ["self", "spot", "rise"] ["self", "spot", "rise"] (defScope s_BatchEndless___init__) := ⟨rfl, rfl, rfl, by decide +kernel, rfl, by decide +kernel, by decide +kernel⟩
abbrev s_NeverLess___init__ : Stmt := inClass (topS 12) 0
theorem sc_NeverLess___init__ : FnScope ["self", "begins"] ["self", "begins"] (defScope s_NeverLess___init__) := ⟨rfl, rfl, rfl, by decide +kernel, rfl, by decide +kernel, by decide +kernel⟩
abbrev s_Less___init__ : Stmt := inClass (topS 13) 0
theorem sc_Less___init__ : FnScope ["self", "rest"] ["self", "rest"] (defScope s_Less___init__) := ⟨rfl, rfl, rfl, by decide +kernel, rfl, by decide +kernel, by decide +kernel⟩
abbrev s_Steady___init__ : Stmt := inClass (topS 14) 0
theorem sc_Steady___init__ : FnScope ["self", "begins"] ["self", "begins"] (defScope s_Steady___init__) := ⟨rfl, rfl, rfl, by decide +kernel, rfl, by decide +kernel, by decide +kernel⟩
abbrev s_Jump___init__ : Stmt := inClass (topS 15) 0
theorem sc_Jump___init__ : FnScope ["self", "rest"] ["self", "rest"] (defScope s_Jump___init__) := ⟨rfl, rfl, rfl, by decide +kernel, rfl, by decide +kernel, by decide +kernel⟩
abbrev s_Same___init__ : Stmt := inClass (topS 16) 0
theorem sc_Same___init__ : FnScope ["self", "first", "last"] ["self", "first", "last"] (defScope s_Same___init__) := ⟨rfl, rfl, rfl, by decide +kernel, rfl, by decide +kernel, by decide +kernel⟩
abbrev s_Other___init__ : Stmt := inClass (topS 17) 0
theorem sc_Other___init__ : FnScope ["self", "rest"] ["self", "rest"] (defScope s_Other___init__) := ⟨rfl, rfl, rfl, by decide +kernel, rfl, by decide +kernel, by decide +kernel⟩
abbrev s_Surely___init__ : Stmt := inClass (topS 18) 0
theorem sc_Surely___init__ : FnScope ["self", "never", "steady"] ["self", "never", "steady"] (defScope s_Surely___init__) := ⟨rfl, rfl, rfl, by decide +kernel, rfl, by decide +kernel, by decide +kernel⟩
abbrev s_Counter___init__ : Stmt := inClass (topS 19) 0
theorem sc_Counter___init__ : FnScope ["self", "total", "counts"] ["self", "total", "counts"] (defScope s_Counter___init__) := ⟨rfl, rfl, rfl, by decide +kernel, rfl, by decide +kernel, by decide +kernel⟩
abbrev s_Undecided___init__ : Stmt := inClass (topS 20) 0
theorem sc_Undecided___init__ : FnScope ["self", "upto"] ["self", "upto"] (defScope s_Undecided___init__) := ⟨rfl, rfl, rfl, by decide +kernel, rfl, by decide +kernel, by decide +kernel⟩
abbrev s_Bound___init__ : Stmt := inClass (topS 22) 0
theorem sc_Bound___init__ : FnScope ["self", "late", "rest"] ["self", "late", "rest"] (defScope s_Bound___init__) := ⟨rfl, rfl, rfl, by decide +kernel, rfl, by decide +kernel, by decide +kernel⟩
abbrev s_Endless___init__ : Stmt := inClass (topS 23) 0
theorem sc_Endless___init__ : FnScope ["self", "residue", "begin"] ["self", "residue", "begin"] (defScope s_Endless___init__) := ⟨rfl, rfl, rfl, by decide +kernel, rfl, by decide +kernel, by decide +kernel⟩
abbrev s_Within___init__ : Stmt := inClass (topS 24) 0
theorem sc_Within___init__ : FnScope ["self", "table"] ["self", "table"] (defScope s_Within___init__) := ⟨rfl, rfl, rfl, by decide +kernel, rfl, by decide +kernel, by decide +kernel⟩
abbrev s_Beyond___init__ : Stmt := inClass (topS 25) 0
theorem sc_Beyond___init__ : FnScope ["self", "rest", "late"] ["self", "rest", "late"] (defScope s_Beyond___init__) := ⟨rfl, rfl, rfl, by decide +kernel, rfl, by decide +kernel, by decide +kernel⟩
abbrev s_Latest___init__ : Stmt := inClass (topS 27) 0
theorem sc_Latest___init__ : FnScope ["self", "late", "at", "world"] ["self", "late", "at", "world"] (defScope s_Latest___init__) := ⟨rfl, rfl, rfl, by decide +kernel, rfl, by decide +kernel, by decide +kernel⟩
abbrev s_Taking___init__ : Stmt := inClass (topS 29) 0
theorem sc_Taking___init__ : FnScope ["self", "worker", "at", "begun", "ended"] ["self", "worker", "at", "begun", "ended"] (defScope s_Taking___init__) := ⟨rfl, rfl, rfl, by decide +kernel, rfl, by decide +kernel, by decide +kernel⟩
abbrev s_Fits___init__ : Stmt := inClass (topS 31) 0
theorem sc_Fits___init__ : FnScope ["self", "world"] ["self", "world"] (defScope s_Fits___init__) := ⟨rfl, rfl, rfl, by decide +kernel, rfl, by decide +kernel, by decide +kernel⟩
abbrev s_Misfit___init__ : Stmt := inClass (topS 32) 0
theorem sc_Misfit___init__ : FnScope ["self", "at", "why"] ["self", "at", "why"] (defScope s_Misfit___init__) := ⟨rfl, rfl, rfl, by decide +kernel, rfl, by decide +kernel, by decide +kernel⟩
abbrev s_Ring___init__ : Stmt := inClass (topS 33) 0
theorem sc_Ring___init__ : FnScope ["self", "workers"] ["self", "workers"] (defScope s_Ring___init__) := ⟨rfl, rfl, rfl, by decide +kernel, rfl, by decide +kernel, by decide +kernel⟩
abbrev s_Came___init__ : Stmt := inClass (topS 34) 0
theorem sc_Came___init__ : FnScope ["self", "least", "most"] ["self", "least", "most"] (defScope s_Came___init__) := ⟨rfl, rfl, rfl, by decide +kernel, rfl, by decide +kernel, by decide +kernel⟩
abbrev s_BestOrder___init__ : Stmt := inClass (topS 36) 0
theorem sc_BestOrder___init__ : FnScope ["self", "names", "late", "last"] ["self", "names", "late", "last"] (defScope s_BestOrder___init__) := ⟨rfl, rfl, rfl, by decide +kernel, rfl, by decide +kernel, by decide +kernel⟩
abbrev s_PoolTaking___init__ : Stmt := inClass (topS 38) 0
theorem sc_PoolTaking___init__ : FnScope ["self", "loop", "worker", "many", "begun", "ended"] ["self", "loop", "worker", "many", "begun", "ended"] (defScope s_PoolTaking___init__) := ⟨rfl, rfl, rfl, by decide +kernel, rfl, by decide +kernel, by decide +kernel⟩
section
variable {P : Program} {w : World} {K : PySem.W.Frag} {mg : Str → Option Value} {base : Heap} {cs : List Addr} {CP CD fb : Addr}
theorem ok_init_Fewest {f : Addr} {fd : FuncData} (F : Fun K "__init__" "Fewest.__init__" s_Fewest___init__ f fd) (T : Txt K mg cs CP CD fb) : FnOk P w K mg base (L2.CX P w) 1 f fd ["self", "chunks"] (spInit (cs.getD 0 0) ["chunks"]) := by
  refine funO F sc_Fewest___init__ (fun vs H Q E h => ?_) (fun cd A fr s H vs Q E hr h => ?_)
  · obtain ⟨p, dx, xs, rfl, hl, _⟩ := h; rw [List.length_cons, hl]; rfl
  · obtain ⟨p, dx, xs, rfl, hl, hp, m⟩ := h
    match xs, hl, m with
    | [x0], _, m =>
      refine ⟨_, (pss_one (ps_fld (pv 0) (pv 1) rfl)), ?_⟩
      tm_at "s"
      refine ⟨p, _, dx, _, rfl, hp, T.cl 0 (by decide), T.fld 0 (by decide) "chunks" (by decide), (by show 0 < 1000; decide), ?_⟩
      exact m _ (fun c o h1 e => by rw [upd_ne h1]; exact e) upd_same
theorem ok_init_NoList {f : Addr} {fd : FuncData} (F : Fun K "__init__" "NoList.__init__" s_NoList___init__ f fd) (T : Txt K mg cs CP CD fb) : FnOk P w K mg base (L2.CX P w) 1 f fd ["self", "rests"] (spInit (cs.getD 1 0) ["rests"]) := by
  refine funO F sc_NoList___init__ (fun vs H Q E h => ?_) (fun cd A fr s H vs Q E hr h => ?_)
  · obtain ⟨p, dx, xs, rfl, hl, _⟩ := h; rw [List.length_cons, hl]; rfl
  · obtain ⟨p, dx, xs, rfl, hl, hp, m⟩ := h
    match xs, hl, m with
    | [x0], _, m =>
      refine ⟨_, (pss_one (ps_fld (pv 0) (pv 1) rfl)), ?_⟩
      tm_at "s"
      refine ⟨p, _, dx, _, rfl, hp, T.cl 1 (by decide), T.fld 1 (by decide) "rests" (by decide), (by show 0 < 1000; decide), ?_⟩
      exact m _ (fun c o h1 e => by rw [upd_ne h1]; exact e) upd_same
theorem ok_init_Greatest {f : Addr} {fd : FuncData} (F : Fun K "__init__" "Greatest.__init__" s_Greatest___init__ f fd) (T : Txt K mg cs CP CD fb) : FnOk P w K mg base (L2.CX P w) 1 f fd ["self", "total", "chunks"] (spInit (cs.getD 2 0) ["total", "chunks"]) := by
  refine funO F sc_Greatest___init__ (fun vs H Q E h => ?_) (fun cd A fr s H vs Q E hr h => ?_)
  · obtain ⟨p, dx, xs, rfl, hl, _⟩ := h; rw [List.length_cons, hl]; rfl
  · obtain ⟨p, dx, xs, rfl, hl, hp, m⟩ := h
    match xs, hl, m with
    | [x0, x1], _, m =>
      refine ⟨_, (pss_cons (ps_fld (pv 0) (pv 1) rfl)
      (pss_one (ps_fld (pv 0) (pv 2) rfl))), ?_⟩
      tm_at "s"
      refine ⟨p, _, dx, _, rfl, hp, T.cl 2 (by decide), T.fld 2 (by decide) "total" (by decide), (by show 0 < 1000; decide), ?_⟩
      tm_at "s"
      refine ⟨p, _, dx, _, rfl, upd_same, T.cl 2 (by decide), T.fld 2 (by decide) "chunks" (by decide), (by show 1 < 1000; decide), ?_⟩
      exact m _ (fun c o h1 e => by rw [upd_ne h1, upd_ne h1]; exact e) upd_same
theorem ok_init_Least {f : Addr} {fd : FuncData} (F : Fun K "__init__" "Least.__init__" s_Least___init__ f fd) (T : Txt K mg cs CP CD fb) : FnOk P w K mg base (L2.CX P w) 1 f fd ["self", "limit", "chunks", "below"] (spInit (cs.getD 3 0) ["limit", "chunks", "below"]) := by
  refine funO F sc_Least___init__ (fun vs H Q E h => ?_) (fun cd A fr s H vs Q E hr h => ?_)
  · obtain ⟨p, dx, xs, rfl, hl, _⟩ := h; rw [List.length_cons, hl]; rfl
  · obtain ⟨p, dx, xs, rfl, hl, hp, m⟩ := h
    match xs, hl, m with
    | [x0, x1, x2], _, m =>
      refine ⟨_, (pss_cons (ps_fld (pv 0) (pv 1) rfl)
      (pss_cons (ps_fld (pv 0) (pv 2) rfl)
      (pss_one (ps_fld (pv 0) (pv 3) rfl)))), ?_⟩
      tm_at "s"
      refine ⟨p, _, dx, _, rfl, hp, T.cl 3 (by decide), T.fld 3 (by decide) "limit" (by decide), (by show 0 < 1000; decide), ?_⟩
      tm_at "s"
      refine ⟨p, _, dx, _, rfl, upd_same, T.cl 3 (by decide), T.fld 3 (by decide) "chunks" (by decide), (by show 1 < 1000; decide), ?_⟩
      tm_at "s"
      refine ⟨p, _, dx, _, rfl, upd_same, T.cl 3 (by decide), T.fld 3 (by decide) "below" (by decide), (by show 2 < 1000; decide), ?_⟩
      exact m _ (fun c o h1 e => by rw [upd_ne h1, upd_ne h1, upd_ne h1]; exact e) upd_same
theorem ok_init_BatchBound {f : Addr} {fd : FuncData} (F : Fun K "__init__" "BatchBound.__init__" s_BatchBound___init__ f fd) (T : Txt K mg cs CP CD fb) : FnOk P w K mg base (L2.CX P w) 1 f fd ["self", "late", "rest", "spot"] (spInit (cs.getD 4 0) ["late", "rest", "spot"]) := by
  refine funO F sc_BatchBound___init__ (fun vs H Q E h => ?_) (fun cd A fr s H vs Q E hr h => ?_)
  · obtain ⟨p, dx, xs, rfl, hl, _⟩ := h; rw [List.length_cons, hl]; rfl
  · obtain ⟨p, dx, xs, rfl, hl, hp, m⟩ := h
    match xs, hl, m with
    | [x0, x1, x2], _, m =>
      refine ⟨_, (pss_cons (ps_fld (pv 0) (pv 1) rfl)
      (pss_cons (ps_fld (pv 0) (pv 2) rfl)
      (pss_one (ps_fld (pv 0) (pv 3) rfl)))), ?_⟩
      tm_at "s"
      refine ⟨p, _, dx, _, rfl, hp, T.cl 4 (by decide), T.fld 4 (by decide) "late" (by decide), (by show 0 < 1000; decide), ?_⟩
      tm_at "s"
      refine ⟨p, _, dx, _, rfl, upd_same, T.cl 4 (by decide), T.fld 4 (by decide) "rest" (by decide), (by show 1 < 1000; decide), ?_⟩
      tm_at "s"
      refine ⟨p, _, dx, _, rfl, upd_same, T.cl 4 (by decide), T.fld 4 (by decide) "spot" (by decide), (by show 2 < 1000; decide), ?_⟩
      exact m _ (fun c o h1 e => by rw [upd_ne h1, upd_ne h1, upd_ne h1]; exact e) upd_same
theorem ok_init_BatchEndless {f : Addr} {fd : FuncData} (F : Fun K "__init__" "BatchEndless.__init__" s_BatchEndless___init__ f fd) (T : Txt K mg cs CP CD fb) : FnOk P w K mg base (L2.CX P w) 1 f fd ["self", "spot", "rise"] (spInit (cs.getD 5 0) ["spot", "rise"]) := by
  refine funO F sc_BatchEndless___init__ (fun vs H Q E h => ?_) (fun cd A fr s H vs Q E hr h => ?_)
  · obtain ⟨p, dx, xs, rfl, hl, _⟩ := h; rw [List.length_cons, hl]; rfl
  · obtain ⟨p, dx, xs, rfl, hl, hp, m⟩ := h
    match xs, hl, m with
    | [x0, x1], _, m =>
      refine ⟨_, (pss_cons (ps_fld (pv 0) (pv 1) rfl)
      (pss_one (ps_fld (pv 0) (pv 2) rfl))), ?_⟩
      tm_at "s"
      refine ⟨p, _, dx, _, rfl, hp, T.cl 5 (by decide), T.fld 5 (by decide) "spot" (by decide), (by show 0 < 1000; decide), ?_⟩
      tm_at "s"
      refine ⟨p, _, dx, _, rfl, upd_same, T.cl 5 (by decide), T.fld 5 (by decide) "rise" (by decide), (by show 1 < 1000; decide), ?_⟩
      exact m _ (fun c o h1 e => by rw [upd_ne h1, upd_ne h1]; exact e) upd_same
theorem ok_init_NeverLess {f : Addr} {fd : FuncData} (F : Fun K "__init__" "NeverLess.__init__" s_NeverLess___init__ f fd) (T : Txt K mg cs CP CD fb) : FnOk P w K mg base (L2.CX P w) 1 f fd ["self", "begins"] (spInit (cs.getD 6 0) ["begins"]) := by
  refine funO F sc_NeverLess___init__ (fun vs H Q E h => ?_) (fun cd A fr s H vs Q E hr h => ?_)
  · obtain ⟨p, dx, xs, rfl, hl, _⟩ := h; rw [List.length_cons, hl]; rfl
  · obtain ⟨p, dx, xs, rfl, hl, hp, m⟩ := h
    match xs, hl, m with
    | [x0], _, m =>
      refine ⟨_, (pss_one (ps_fld (pv 0) (pv 1) rfl)), ?_⟩
      tm_at "s"
      refine ⟨p, _, dx, _, rfl, hp, T.cl 6 (by decide), T.fld 6 (by decide) "begins" (by decide), (by show 0 < 1000; decide), ?_⟩
      exact m _ (fun c o h1 e => by rw [upd_ne h1]; exact e) upd_same
theorem ok_init_Less {f : Addr} {fd : FuncData} (F : Fun K "__init__" "Less.__init__" s_Less___init__ f fd) (T : Txt K mg cs CP CD fb) : FnOk P w K mg base (L2.CX P w) 1 f fd ["self", "rest"] (spInit (cs.getD 7 0) ["rest"]) := by
  refine funO F sc_Less___init__ (fun vs H Q E h => ?_) (fun cd A fr s H vs Q E hr h => ?_)
  · obtain ⟨p, dx, xs, rfl, hl, _⟩ := h; rw [List.length_cons, hl]; rfl
  · obtain ⟨p, dx, xs, rfl, hl, hp, m⟩ := h
    match xs, hl, m with
    | [x0], _, m =>
      refine ⟨_, (pss_one (ps_fld (pv 0) (pv 1) rfl)), ?_⟩
      tm_at "s"
      refine ⟨p, _, dx, _, rfl, hp, T.cl 7 (by decide), T.fld 7 (by decide) "rest" (by decide), (by show 0 < 1000; decide), ?_⟩
      exact m _ (fun c o h1 e => by rw [upd_ne h1]; exact e) upd_same
theorem ok_init_Steady {f : Addr} {fd : FuncData} (F : Fun K "__init__" "Steady.__init__" s_Steady___init__ f fd) (T : Txt K mg cs CP CD fb) : FnOk P w K mg base (L2.CX P w) 1 f fd ["self", "begins"] (spInit (cs.getD 8 0) ["begins"]) := by
  refine funO F sc_Steady___init__ (fun vs H Q E h => ?_) (fun cd A fr s H vs Q E hr h => ?_)
  · obtain ⟨p, dx, xs, rfl, hl, _⟩ := h; rw [List.length_cons, hl]; rfl
  · obtain ⟨p, dx, xs, rfl, hl, hp, m⟩ := h
    match xs, hl, m with
    | [x0], _, m =>
      refine ⟨_, (pss_one (ps_fld (pv 0) (pv 1) rfl)), ?_⟩
      tm_at "s"
      refine ⟨p, _, dx, _, rfl, hp, T.cl 8 (by decide), T.fld 8 (by decide) "begins" (by decide), (by show 0 < 1000; decide), ?_⟩
      exact m _ (fun c o h1 e => by rw [upd_ne h1]; exact e) upd_same
theorem ok_init_Jump {f : Addr} {fd : FuncData} (F : Fun K "__init__" "Jump.__init__" s_Jump___init__ f fd) (T : Txt K mg cs CP CD fb) : FnOk P w K mg base (L2.CX P w) 1 f fd ["self", "rest"] (spInit (cs.getD 9 0) ["rest"]) := by
  refine funO F sc_Jump___init__ (fun vs H Q E h => ?_) (fun cd A fr s H vs Q E hr h => ?_)
  · obtain ⟨p, dx, xs, rfl, hl, _⟩ := h; rw [List.length_cons, hl]; rfl
  · obtain ⟨p, dx, xs, rfl, hl, hp, m⟩ := h
    match xs, hl, m with
    | [x0], _, m =>
      refine ⟨_, (pss_one (ps_fld (pv 0) (pv 1) rfl)), ?_⟩
      tm_at "s"
      refine ⟨p, _, dx, _, rfl, hp, T.cl 9 (by decide), T.fld 9 (by decide) "rest" (by decide), (by show 0 < 1000; decide), ?_⟩
      exact m _ (fun c o h1 e => by rw [upd_ne h1]; exact e) upd_same
theorem ok_init_Same {f : Addr} {fd : FuncData} (F : Fun K "__init__" "Same.__init__" s_Same___init__ f fd) (T : Txt K mg cs CP CD fb) : FnOk P w K mg base (L2.CX P w) 1 f fd ["self", "first", "last"] (spInit (cs.getD 10 0) ["first", "last"]) := by
  refine funO F sc_Same___init__ (fun vs H Q E h => ?_) (fun cd A fr s H vs Q E hr h => ?_)
  · obtain ⟨p, dx, xs, rfl, hl, _⟩ := h; rw [List.length_cons, hl]; rfl
  · obtain ⟨p, dx, xs, rfl, hl, hp, m⟩ := h
    match xs, hl, m with
    | [x0, x1], _, m =>
      refine ⟨_, (pss_cons (ps_fld (pv 0) (pv 1) rfl)
      (pss_one (ps_fld (pv 0) (pv 2) rfl))), ?_⟩
      tm_at "s"
      refine ⟨p, _, dx, _, rfl, hp, T.cl 10 (by decide), T.fld 10 (by decide) "first" (by decide), (by show 0 < 1000; decide), ?_⟩
      tm_at "s"
      refine ⟨p, _, dx, _, rfl, upd_same, T.cl 10 (by decide), T.fld 10 (by decide) "last" (by decide), (by show 1 < 1000; decide), ?_⟩
      exact m _ (fun c o h1 e => by rw [upd_ne h1, upd_ne h1]; exact e) upd_same
theorem ok_init_Other {f : Addr} {fd : FuncData} (F : Fun K "__init__" "Other.__init__" s_Other___init__ f fd) (T : Txt K mg cs CP CD fb) : FnOk P w K mg base (L2.CX P w) 1 f fd ["self", "rest"] (spInit (cs.getD 11 0) ["rest"]) := by
  refine funO F sc_Other___init__ (fun vs H Q E h => ?_) (fun cd A fr s H vs Q E hr h => ?_)
  · obtain ⟨p, dx, xs, rfl, hl, _⟩ := h; rw [List.length_cons, hl]; rfl
  · obtain ⟨p, dx, xs, rfl, hl, hp, m⟩ := h
    match xs, hl, m with
    | [x0], _, m =>
      refine ⟨_, (pss_one (ps_fld (pv 0) (pv 1) rfl)), ?_⟩
      tm_at "s"
      refine ⟨p, _, dx, _, rfl, hp, T.cl 11 (by decide), T.fld 11 (by decide) "rest" (by decide), (by show 0 < 1000; decide), ?_⟩
      exact m _ (fun c o h1 e => by rw [upd_ne h1]; exact e) upd_same
theorem ok_init_Surely {f : Addr} {fd : FuncData} (F : Fun K "__init__" "Surely.__init__" s_Surely___init__ f fd) (T : Txt K mg cs CP CD fb) : FnOk P w K mg base (L2.CX P w) 1 f fd ["self", "never", "steady"] (spInit (cs.getD 12 0) ["never", "steady"]) := by
  refine funO F sc_Surely___init__ (fun vs H Q E h => ?_) (fun cd A fr s H vs Q E hr h => ?_)
  · obtain ⟨p, dx, xs, rfl, hl, _⟩ := h; rw [List.length_cons, hl]; rfl
  · obtain ⟨p, dx, xs, rfl, hl, hp, m⟩ := h
    match xs, hl, m with
    | [x0, x1], _, m =>
      refine ⟨_, (pss_cons (ps_fld (pv 0) (pv 1) rfl)
      (pss_one (ps_fld (pv 0) (pv 2) rfl))), ?_⟩
      tm_at "s"
      refine ⟨p, _, dx, _, rfl, hp, T.cl 12 (by decide), T.fld 12 (by decide) "never" (by decide), (by show 0 < 1000; decide), ?_⟩
      tm_at "s"
      refine ⟨p, _, dx, _, rfl, upd_same, T.cl 12 (by decide), T.fld 12 (by decide) "steady" (by decide), (by show 1 < 1000; decide), ?_⟩
      exact m _ (fun c o h1 e => by rw [upd_ne h1, upd_ne h1]; exact e) upd_same
theorem ok_init_Counter {f : Addr} {fd : FuncData} (F : Fun K "__init__" "Counter.__init__" s_Counter___init__ f fd) (T : Txt K mg cs CP CD fb) : FnOk P w K mg base (L2.CX P w) 1 f fd ["self", "total", "counts"] (spInit (cs.getD 13 0) ["total", "counts"]) := by
  refine funO F sc_Counter___init__ (fun vs H Q E h => ?_) (fun cd A fr s H vs Q E hr h => ?_)
  · obtain ⟨p, dx, xs, rfl, hl, _⟩ := h; rw [List.length_cons, hl]; rfl
  · obtain ⟨p, dx, xs, rfl, hl, hp, m⟩ := h
    match xs, hl, m with
    | [x0, x1], _, m =>
      refine ⟨_, (pss_cons (ps_fld (pv 0) (pv 1) rfl)
      (pss_one (ps_fld (pv 0) (pv 2) rfl))), ?_⟩
      tm_at "s"
      refine ⟨p, _, dx, _, rfl, hp, T.cl 13 (by decide), T.fld 13 (by decide) "total" (by decide), (by show 0 < 1000; decide), ?_⟩
      tm_at "s"
      refine ⟨p, _, dx, _, rfl, upd_same, T.cl 13 (by decide), T.fld 13 (by decide) "counts" (by decide), (by show 1 < 1000; decide), ?_⟩
      exact m _ (fun c o h1 e => by rw [upd_ne h1, upd_ne h1]; exact e) upd_same
theorem ok_init_Undecided {f : Addr} {fd : FuncData} (F : Fun K "__init__" "Undecided.__init__" s_Undecided___init__ f fd) (T : Txt K mg cs CP CD fb) : FnOk P w K mg base (L2.CX P w) 1 f fd ["self", "upto"] (spInit (cs.getD 14 0) ["upto"]) := by
  refine funO F sc_Undecided___init__ (fun vs H Q E h => ?_) (fun cd A fr s H vs Q E hr h => ?_)
  · obtain ⟨p, dx, xs, rfl, hl, _⟩ := h; rw [List.length_cons, hl]; rfl
  · obtain ⟨p, dx, xs, rfl, hl, hp, m⟩ := h
    match xs, hl, m with
    | [x0], _, m =>
      refine ⟨_, (pss_one (ps_fld (pv 0) (pv 1) rfl)), ?_⟩
      tm_at "s"
      refine ⟨p, _, dx, _, rfl, hp, T.cl 14 (by decide), T.fld 14 (by decide) "upto" (by decide), (by show 0 < 1000; decide), ?_⟩
      exact m _ (fun c o h1 e => by rw [upd_ne h1]; exact e) upd_same
theorem ok_init_Bound {f : Addr} {fd : FuncData} (F : Fun K "__init__" "Bound.__init__" s_Bound___init__ f fd) (T : Txt K mg cs CP CD fb) : FnOk P w K mg base (L2.CX P w) 1 f fd ["self", "late", "rest"] (spInit (cs.getD 15 0) ["late", "rest"]) := by
  refine funO F sc_Bound___init__ (fun vs H Q E h => ?_) (fun cd A fr s H vs Q E hr h => ?_)
  · obtain ⟨p, dx, xs, rfl, hl, _⟩ := h; rw [List.length_cons, hl]; rfl
  · obtain ⟨p, dx, xs, rfl, hl, hp, m⟩ := h
    match xs, hl, m with
    | [x0, x1], _, m =>
      refine ⟨_, (pss_cons (ps_fld (pv 0) (pv 1) rfl)
      (pss_one (ps_fld (pv 0) (pv 2) rfl))), ?_⟩
      tm_at "s"
      refine ⟨p, _, dx, _, rfl, hp, T.cl 15 (by decide), T.fld 15 (by decide) "late" (by decide), (by show 0 < 1000; decide), ?_⟩
      tm_at "s"
      refine ⟨p, _, dx, _, rfl, upd_same, T.cl 15 (by decide), T.fld 15 (by decide) "rest" (by decide), (by show 1 < 1000; decide), ?_⟩
      exact m _ (fun c o h1 e => by rw [upd_ne h1, upd_ne h1]; exact e) upd_same
theorem ok_init_Endless {f : Addr} {fd : FuncData} (F : Fun K "__init__" "Endless.__init__" s_Endless___init__ f fd) (T : Txt K mg cs CP CD fb) : FnOk P w K mg base (L2.CX P w) 1 f fd ["self", "residue", "begin"] (spInit (cs.getD 16 0) ["residue", "begin"]) := by
  refine funO F sc_Endless___init__ (fun vs H Q E h => ?_) (fun cd A fr s H vs Q E hr h => ?_)
  · obtain ⟨p, dx, xs, rfl, hl, _⟩ := h; rw [List.length_cons, hl]; rfl
  · obtain ⟨p, dx, xs, rfl, hl, hp, m⟩ := h
    match xs, hl, m with
    | [x0, x1], _, m =>
      refine ⟨_, (pss_cons (ps_fld (pv 0) (pv 1) rfl)
      (pss_one (ps_fld (pv 0) (pv 2) rfl))), ?_⟩
      tm_at "s"
      refine ⟨p, _, dx, _, rfl, hp, T.cl 16 (by decide), T.fld 16 (by decide) "residue" (by decide), (by show 0 < 1000; decide), ?_⟩
      tm_at "s"
      refine ⟨p, _, dx, _, rfl, upd_same, T.cl 16 (by decide), T.fld 16 (by decide) "begin" (by decide), (by show 1 < 1000; decide), ?_⟩
      exact m _ (fun c o h1 e => by rw [upd_ne h1, upd_ne h1]; exact e) upd_same
theorem ok_init_Within {f : Addr} {fd : FuncData} (F : Fun K "__init__" "Within.__init__" s_Within___init__ f fd) (T : Txt K mg cs CP CD fb) : FnOk P w K mg base (L2.CX P w) 1 f fd ["self", "table"] (spInit (cs.getD 17 0) ["table"]) := by
  refine funO F sc_Within___init__ (fun vs H Q E h => ?_) (fun cd A fr s H vs Q E hr h => ?_)
  · obtain ⟨p, dx, xs, rfl, hl, _⟩ := h; rw [List.length_cons, hl]; rfl
  · obtain ⟨p, dx, xs, rfl, hl, hp, m⟩ := h
    match xs, hl, m with
    | [x0], _, m =>
      refine ⟨_, (pss_one (ps_fld (pv 0) (pv 1) rfl)), ?_⟩
      tm_at "s"
      refine ⟨p, _, dx, _, rfl, hp, T.cl 17 (by decide), T.fld 17 (by decide) "table" (by decide), (by show 0 < 1000; decide), ?_⟩
      exact m _ (fun c o h1 e => by rw [upd_ne h1]; exact e) upd_same
theorem ok_init_Beyond {f : Addr} {fd : FuncData} (F : Fun K "__init__" "Beyond.__init__" s_Beyond___init__ f fd) (T : Txt K mg cs CP CD fb) : FnOk P w K mg base (L2.CX P w) 1 f fd ["self", "rest", "late"] (spInit (cs.getD 18 0) ["rest", "late"]) := by
  refine funO F sc_Beyond___init__ (fun vs H Q E h => ?_) (fun cd A fr s H vs Q E hr h => ?_)
  · obtain ⟨p, dx, xs, rfl, hl, _⟩ := h; rw [List.length_cons, hl]; rfl
  · obtain ⟨p, dx, xs, rfl, hl, hp, m⟩ := h
    match xs, hl, m with
    | [x0, x1], _, m =>
      refine ⟨_, (pss_cons (ps_fld (pv 0) (pv 1) rfl)
      (pss_one (ps_fld (pv 0) (pv 2) rfl))), ?_⟩
      tm_at "s"
      refine ⟨p, _, dx, _, rfl, hp, T.cl 18 (by decide), T.fld 18 (by decide) "rest" (by decide), (by show 0 < 1000; decide), ?_⟩
      tm_at "s"
      refine ⟨p, _, dx, _, rfl, upd_same, T.cl 18 (by decide), T.fld 18 (by decide) "late" (by decide), (by show 1 < 1000; decide), ?_⟩
      exact m _ (fun c o h1 e => by rw [upd_ne h1, upd_ne h1]; exact e) upd_same
theorem ok_init_Latest {f : Addr} {fd : FuncData} (F : Fun K "__init__" "Latest.__init__" s_Latest___init__ f fd) (T : Txt K mg cs CP CD fb) : FnOk P w K mg base (L2.CX P w) 1 f fd ["self", "late", "at", "world"] (spInit (cs.getD 19 0) ["late", "at", "world"]) := by
  refine funO F sc_Latest___init__ (fun vs H Q E h => ?_) (fun cd A fr s H vs Q E hr h => ?_)
  · obtain ⟨p, dx, xs, rfl, hl, _⟩ := h; rw [List.length_cons, hl]; rfl
  · obtain ⟨p, dx, xs, rfl, hl, hp, m⟩ := h
    match xs, hl, m with
    | [x0, x1, x2], _, m =>
      refine ⟨_, (pss_cons (ps_fld (pv 0) (pv 1) rfl)
      (pss_cons (ps_fld (pv 0) (pv 2) rfl)
      (pss_one (ps_fld (pv 0) (pv 3) rfl)))), ?_⟩
      tm_at "s"
      refine ⟨p, _, dx, _, rfl, hp, T.cl 19 (by decide), T.fld 19 (by decide) "late" (by decide), (by show 0 < 1000; decide), ?_⟩
      tm_at "s"
      refine ⟨p, _, dx, _, rfl, upd_same, T.cl 19 (by decide), T.fld 19 (by decide) "at" (by decide), (by show 1 < 1000; decide), ?_⟩
      tm_at "s"
      refine ⟨p, _, dx, _, rfl, upd_same, T.cl 19 (by decide), T.fld 19 (by decide) "world" (by decide), (by show 2 < 1000; decide), ?_⟩
      exact m _ (fun c o h1 e => by rw [upd_ne h1, upd_ne h1, upd_ne h1]; exact e) upd_same
theorem ok_init_Taking {f : Addr} {fd : FuncData} (F : Fun K "__init__" "Taking.__init__" s_Taking___init__ f fd) (T : Txt K mg cs CP CD fb) : FnOk P w K mg base (L2.CX P w) 1 f fd ["self", "worker", "at", "begun", "ended"] (spInit (cs.getD 20 0) ["worker", "at", "begun", "ended"]) := by
  refine funO F sc_Taking___init__ (fun vs H Q E h => ?_) (fun cd A fr s H vs Q E hr h => ?_)
  · obtain ⟨p, dx, xs, rfl, hl, _⟩ := h; rw [List.length_cons, hl]; rfl
  · obtain ⟨p, dx, xs, rfl, hl, hp, m⟩ := h
    match xs, hl, m with
    | [x0, x1, x2, x3], _, m =>
      refine ⟨_, (pss_cons (ps_fld (pv 0) (pv 1) rfl)
      (pss_cons (ps_fld (pv 0) (pv 2) rfl)
      (pss_cons (ps_fld (pv 0) (pv 3) rfl)
      (pss_one (ps_fld (pv 0) (pv 4) rfl))))), ?_⟩
      tm_at "s"
      refine ⟨p, _, dx, _, rfl, hp, T.cl 20 (by decide), T.fld 20 (by decide) "worker" (by decide), (by show 0 < 1000; decide), ?_⟩
      tm_at "s"
      refine ⟨p, _, dx, _, rfl, upd_same, T.cl 20 (by decide), T.fld 20 (by decide) "at" (by decide), (by show 1 < 1000; decide), ?_⟩
      tm_at "s"
      refine ⟨p, _, dx, _, rfl, upd_same, T.cl 20 (by decide), T.fld 20 (by decide) "begun" (by decide), (by show 2 < 1000; decide), ?_⟩
      tm_at "s"
      refine ⟨p, _, dx, _, rfl, upd_same, T.cl 20 (by decide), T.fld 20 (by decide) "ended" (by decide), (by show 3 < 1000; decide), ?_⟩
      exact m _ (fun c o h1 e => by rw [upd_ne h1, upd_ne h1, upd_ne h1, upd_ne h1]; exact e) upd_same
theorem ok_init_Fits {f : Addr} {fd : FuncData} (F : Fun K "__init__" "Fits.__init__" s_Fits___init__ f fd) (T : Txt K mg cs CP CD fb) : FnOk P w K mg base (L2.CX P w) 1 f fd ["self", "world"] (spInit (cs.getD 21 0) ["world"]) := by
  refine funO F sc_Fits___init__ (fun vs H Q E h => ?_) (fun cd A fr s H vs Q E hr h => ?_)
  · obtain ⟨p, dx, xs, rfl, hl, _⟩ := h; rw [List.length_cons, hl]; rfl
  · obtain ⟨p, dx, xs, rfl, hl, hp, m⟩ := h
    match xs, hl, m with
    | [x0], _, m =>
      refine ⟨_, (pss_one (ps_fld (pv 0) (pv 1) rfl)), ?_⟩
      tm_at "s"
      refine ⟨p, _, dx, _, rfl, hp, T.cl 21 (by decide), T.fld 21 (by decide) "world" (by decide), (by show 0 < 1000; decide), ?_⟩
      exact m _ (fun c o h1 e => by rw [upd_ne h1]; exact e) upd_same
theorem ok_init_Misfit {f : Addr} {fd : FuncData} (F : Fun K "__init__" "Misfit.__init__" s_Misfit___init__ f fd) (T : Txt K mg cs CP CD fb) : FnOk P w K mg base (L2.CX P w) 1 f fd ["self", "at", "why"] (spInit (cs.getD 22 0) ["at", "why"]) := by
  refine funO F sc_Misfit___init__ (fun vs H Q E h => ?_) (fun cd A fr s H vs Q E hr h => ?_)
  · obtain ⟨p, dx, xs, rfl, hl, _⟩ := h; rw [List.length_cons, hl]; rfl
  · obtain ⟨p, dx, xs, rfl, hl, hp, m⟩ := h
    match xs, hl, m with
    | [x0, x1], _, m =>
      refine ⟨_, (pss_cons (ps_fld (pv 0) (pv 1) rfl)
      (pss_one (ps_fld (pv 0) (pv 2) rfl))), ?_⟩
      tm_at "s"
      refine ⟨p, _, dx, _, rfl, hp, T.cl 22 (by decide), T.fld 22 (by decide) "at" (by decide), (by show 0 < 1000; decide), ?_⟩
      tm_at "s"
      refine ⟨p, _, dx, _, rfl, upd_same, T.cl 22 (by decide), T.fld 22 (by decide) "why" (by decide), (by show 1 < 1000; decide), ?_⟩
      exact m _ (fun c o h1 e => by rw [upd_ne h1, upd_ne h1]; exact e) upd_same
theorem ok_init_Ring {f : Addr} {fd : FuncData} (F : Fun K "__init__" "Ring.__init__" s_Ring___init__ f fd) (T : Txt K mg cs CP CD fb) : FnOk P w K mg base (L2.CX P w) 1 f fd ["self", "workers"] (spInit (cs.getD 23 0) ["workers"]) := by
  refine funO F sc_Ring___init__ (fun vs H Q E h => ?_) (fun cd A fr s H vs Q E hr h => ?_)
  · obtain ⟨p, dx, xs, rfl, hl, _⟩ := h; rw [List.length_cons, hl]; rfl
  · obtain ⟨p, dx, xs, rfl, hl, hp, m⟩ := h
    match xs, hl, m with
    | [x0], _, m =>
      refine ⟨_, (pss_one (ps_fld (pv 0) (pv 1) rfl)), ?_⟩
      tm_at "s"
      refine ⟨p, _, dx, _, rfl, hp, T.cl 23 (by decide), T.fld 23 (by decide) "workers" (by decide), (by show 0 < 1000; decide), ?_⟩
      exact m _ (fun c o h1 e => by rw [upd_ne h1]; exact e) upd_same
theorem ok_init_Came {f : Addr} {fd : FuncData} (F : Fun K "__init__" "Came.__init__" s_Came___init__ f fd) (T : Txt K mg cs CP CD fb) : FnOk P w K mg base (L2.CX P w) 1 f fd ["self", "least", "most"] (spInit (cs.getD 24 0) ["least", "most"]) := by
  refine funO F sc_Came___init__ (fun vs H Q E h => ?_) (fun cd A fr s H vs Q E hr h => ?_)
  · obtain ⟨p, dx, xs, rfl, hl, _⟩ := h; rw [List.length_cons, hl]; rfl
  · obtain ⟨p, dx, xs, rfl, hl, hp, m⟩ := h
    match xs, hl, m with
    | [x0, x1], _, m =>
      refine ⟨_, (pss_cons (ps_fld (pv 0) (pv 1) rfl)
      (pss_one (ps_fld (pv 0) (pv 2) rfl))), ?_⟩
      tm_at "s"
      refine ⟨p, _, dx, _, rfl, hp, T.cl 24 (by decide), T.fld 24 (by decide) "least" (by decide), (by show 0 < 1000; decide), ?_⟩
      tm_at "s"
      refine ⟨p, _, dx, _, rfl, upd_same, T.cl 24 (by decide), T.fld 24 (by decide) "most" (by decide), (by show 1 < 1000; decide), ?_⟩
      exact m _ (fun c o h1 e => by rw [upd_ne h1, upd_ne h1]; exact e) upd_same
theorem ok_init_BestOrder {f : Addr} {fd : FuncData} (F : Fun K "__init__" "BestOrder.__init__" s_BestOrder___init__ f fd) (T : Txt K mg cs CP CD fb) : FnOk P w K mg base (L2.CX P w) 1 f fd ["self", "names", "late", "last"] (spInit (cs.getD 25 0) ["names", "late", "last"]) := by
  refine funO F sc_BestOrder___init__ (fun vs H Q E h => ?_) (fun cd A fr s H vs Q E hr h => ?_)
  · obtain ⟨p, dx, xs, rfl, hl, _⟩ := h; rw [List.length_cons, hl]; rfl
  · obtain ⟨p, dx, xs, rfl, hl, hp, m⟩ := h
    match xs, hl, m with
    | [x0, x1, x2], _, m =>
      refine ⟨_, (pss_cons (ps_fld (pv 0) (pv 1) rfl)
      (pss_cons (ps_fld (pv 0) (pv 2) rfl)
      (pss_one (ps_fld (pv 0) (pv 3) rfl)))), ?_⟩
      tm_at "s"
      refine ⟨p, _, dx, _, rfl, hp, T.cl 25 (by decide), T.fld 25 (by decide) "names" (by decide), (by show 0 < 1000; decide), ?_⟩
      tm_at "s"
      refine ⟨p, _, dx, _, rfl, upd_same, T.cl 25 (by decide), T.fld 25 (by decide) "late" (by decide), (by show 1 < 1000; decide), ?_⟩
      tm_at "s"
      refine ⟨p, _, dx, _, rfl, upd_same, T.cl 25 (by decide), T.fld 25 (by decide) "last" (by decide), (by show 2 < 1000; decide), ?_⟩
      exact m _ (fun c o h1 e => by rw [upd_ne h1, upd_ne h1, upd_ne h1]; exact e) upd_same
theorem ok_init_PoolTaking {f : Addr} {fd : FuncData} (F : Fun K "__init__" "PoolTaking.__init__" s_PoolTaking___init__ f fd) (T : Txt K mg cs CP CD fb) : FnOk P w K mg base (L2.CX P w) 1 f fd ["self", "loop", "worker", "many", "begun", "ended"] (spInit (cs.getD 26 0) ["loop", "worker", "many", "begun", "ended"]) := by
  refine funO F sc_PoolTaking___init__ (fun vs H Q E h => ?_) (fun cd A fr s H vs Q E hr h => ?_)
  · obtain ⟨p, dx, xs, rfl, hl, _⟩ := h; rw [List.length_cons, hl]; rfl
  · obtain ⟨p, dx, xs, rfl, hl, hp, m⟩ := h
    match xs, hl, m with
    | [x0, x1, x2, x3, x4], _, m =>
      refine ⟨_, (pss_cons (ps_fld (pv 0) (pv 1) rfl)
      (pss_cons (ps_fld (pv 0) (pv 2) rfl)
      (pss_cons (ps_fld (pv 0) (pv 3) rfl)
      (pss_cons (ps_fld (pv 0) (pv 4) rfl)
      (pss_one (ps_fld (pv 0) (pv 5) rfl)))))), ?_⟩
      tm_at "s"
      refine ⟨p, _, dx, _, rfl, hp, T.cl 26 (by decide), T.fld 26 (by decide) "loop" (by decide), (by show 0 < 1000; decide), ?_⟩
      tm_at "s"
      refine ⟨p, _, dx, _, rfl, upd_same, T.cl 26 (by decide), T.fld 26 (by decide) "worker" (by decide), (by show 1 < 1000; decide), ?_⟩
      tm_at "s"
      refine ⟨p, _, dx, _, rfl, upd_same, T.cl 26 (by decide), T.fld 26 (by decide) "many" (by decide), (by show 2 < 1000; decide), ?_⟩
      tm_at "s"
      refine ⟨p, _, dx, _, rfl, upd_same, T.cl 26 (by decide), T.fld 26 (by decide) "begun" (by decide), (by show 3 < 1000; decide), ?_⟩
      tm_at "s"
      refine ⟨p, _, dx, _, rfl, upd_same, T.cl 26 (by decide), T.fld 26 (by decide) "ended" (by decide), (by show 4 < 1000; decide), ?_⟩
      exact m _ (fun c o h1 e => by rw [upd_ne h1, upd_ne h1, upd_ne h1, upd_ne h1, upd_ne h1]; exact e) upd_same
end
end K03
end
section
local macro_rules | `(tactic| tm_at "s1") => `(tactic| first
  | with_reducible first
    | refine L3.s_seq ?_ | refine L3.s_asg ?_ | refine L3.s_op ?_ | refine L3.s_c ?_ | refine L3.s_cb ?_ | refine L3.s_cons ?_ | refine L3.s_nil ?_ | refine L3.s_test ?_ | refine L3.s_bl ?_
    | refine L3.s_I0 ?_ | refine L3.s_and ?_ | refine L3.s_or ?_ | refine L3.s_not ?_ | refine L3.s_if ?_ | refine L3.s_next ?_ | refine L3.s_ret ?_ | refine L3.s_retN ?_ | refine L3.s_asgS ?_ | refine L3.s_drop ?_
    | refine L3.s_un ?_ | refine L3.s_U ?_ | refine L3.s_int ?_ | refine L3.s_intB ?_ | refine L3.s_abs ?_ | refine L3.s_andV ?_ | refine L3.s_orV ?_ | refine L3.s_notV ?_ | refine L3.s_ifE ?_ | refine L3.s_call ?_ | refine L3.s_lst ?_ | refine L3.s_tup ?_ | refine L3.s_tB ?_
    | refine L3.s_addI ?_ | refine L3.s_inS ?_ | refine L3.s_ninS ?_ | refine L3.s_slice ?_ | refine L3.s_part ?_ | refine L3.s_partI ?_ | refine L3.s_nopart ?_ | refine L3.s_cI ?_ | refine L3.s_cB ?_ | refine L3.s_chain ?_ | refine L3.s_bm ?_ | refine L3.s_lcS ?_ | refine L3.s_lcR ?_ | refine L3.s_strE ?_
    | refine L2.iteT ?_ | refine L2.iteF ?_ | refine L3.iteNF ?_ | refine L3.iteNT ?_
    | refine L3.s_eqI ?_ | refine L3.s_neI ?_ | refine L3.s_eqS ?_ | refine L3.s_neS ?_
    | refine L3.s_pair ?_ | refine L3.s_pair2 ?_ | refine L3.s_fld ?_ | refine L3.s_make ?_ | refine L3.s_m1 ?_ | refine L3.s_isstr ?_
    | refine L3.s_xfV ?_ | refine L3.s_lstN ?_ | refine L3.s_callF ?_ | refine L3.s_lcL ?_ | refine L3.s_par3 ?_ | refine L3.s_trip ?_ | refine L3.s_asgT' ?_ | refine L3.s_gC ?_ | refine L3.s_gN ?_ | refine L3.s_fldG ?_ | refine L3.s_raise1 ?_
    | refine L3.s_isN ?_ | refine L3.s_isB ?_ | refine L3.s_nisN ?_ | refine L3.s_nisB ?_
  | ((with_reducible refine' L3.s_var ?e ?_); (case e => rfl))
  | ((with_reducible refine' L3.s_aug ?e ?_); (case e => rfl))
  | ((with_reducible refine' L3.s_pow ?c ?_); (case c => exact ⟨by decide, by decide, by decide⟩)))
local macro_rules | `(tactic| tm_at "s") => `(tactic| repeat tm_at "s1")
namespace K03
open PySem PySem.Spec PyProof.Rows L2 L3 LamX
abbrev s_Fewest___eq__ : Stmt := inClass (topS 4) 1
theorem sc_Fewest___eq__ : FnScope ["self", "other"] ["self", "other"] (defScope s_Fewest___eq__) := ⟨rfl, rfl, rfl, by decide +kernel, rfl, by decide +kernel, by decide +kernel⟩
abbrev s_NoList___eq__ : Stmt := inClass (topS 5) 1
theorem sc_NoList___eq__ : FnScope ["self", "other"] ["self", "other"] (defScope s_NoList___eq__) := ⟨rfl, rfl, rfl, by decide +kernel, rfl, by decide +kernel, by decide +kernel⟩
abbrev s_Greatest___eq__ : Stmt := inClass (topS 6) 1
theorem sc_Greatest___eq__ : FnScope ["self", "other"] ["self", "other"] (defScope s_Greatest___eq__) := ⟨rfl, rfl, rfl, by decide +kernel, rfl, by decide +kernel, by decide +kernel⟩
abbrev s_Least___eq__ : Stmt := inClass (topS 7) 1
theorem sc_Least___eq__ : FnScope ["self", "other"] ["self", "other"] (defScope s_Least___eq__) := ⟨rfl, rfl, rfl, by decide +kernel, rfl, by decide +kernel, by decide +kernel⟩
abbrev s_BatchBound___eq__ : Stmt := inClass (topS 9) 1
theorem sc_BatchBound___eq__ : FnScope ["self", "other"] ["self", "other"] (defScope s_BatchBound___eq__) := ⟨rfl, rfl, rfl, by decide +kernel, rfl, by decide +kernel, by decide +kernel⟩
abbrev s_BatchEndless___eq__ : Stmt := inClass (topS 10) 1
theorem sc_BatchEndless___eq__ : FnScope ["self", "other"] ["self", "other"] (defScope s_BatchEndless___eq__) := ⟨rfl, rfl, rfl, by decide +kernel, rfl, by decide +kernel, by decide +kernel⟩
abbrev s_NeverLess___eq__ : Stmt := inClass (topS 12) 1
theorem sc_NeverLess___eq__ : FnScope ["self", "other"] ["self", "other"] (defScope s_NeverLess___eq__) := ⟨rfl, rfl, rfl, by decide +kernel, rfl, by decide +kernel, by decide +kernel⟩
abbrev s_Less___eq__ : Stmt := inClass (topS 13) 1
theorem sc_Less___eq__ : FnScope ["self", "other"] ["self", "other"] (defScope s_Less___eq__) := ⟨rfl, rfl, rfl, by decide +kernel, rfl, by decide +kernel, by decide +kernel⟩
abbrev s_Steady___eq__ : Stmt := inClass (topS 14) 1
theorem sc_Steady___eq__ : FnScope ["self", "other"] ["self", "other"] (defScope s_Steady___eq__) := ⟨rfl, rfl, rfl, by decide +kernel, rfl, by decide +kernel, by decide +kernel⟩
abbrev s_Jump___eq__ : Stmt := inClass (topS 15) 1
theorem sc_Jump___eq__ : FnScope ["self", "other"] ["self", "other"] (defScope s_Jump___eq__) := ⟨rfl, rfl, rfl, by decide +kernel, rfl, by decide +kernel, by decide +kernel⟩
abbrev s_Same___eq__ : Stmt := inClass (topS 16) 1
theorem sc_Same___eq__ : FnScope ["self", "other"] ["self", "other"] (defScope s_Same___eq__) := ⟨rfl, rfl, rfl, by decide +kernel, rfl, by decide +kernel, by decide +kernel⟩
abbrev s_Other___eq__ : Stmt := inClass (topS 17) 1
theorem sc_Other___eq__ : FnScope ["self", "other"] ["self", "other"] (defScope s_Other___eq__) := ⟨rfl, rfl, rfl, by decide +kernel, rfl, by decide +kernel, by decide +kernel⟩
abbrev s_Surely___eq__ : Stmt := inClass (topS 18) 1
theorem sc_Surely___eq__ : FnScope ["self", "other"] ["self", "other"] (defScope s_Surely___eq__) := ⟨rfl, rfl, rfl, by decide +kernel, rfl, by decide +kernel, by decide +kernel⟩
abbrev s_Counter___eq__ : Stmt := inClass (topS 19) 1
theorem sc_Counter___eq__ : FnScope ["self", "other"] ["self", "other"] (defScope s_Counter___eq__) := ⟨rfl, rfl, rfl, by decide +kernel, rfl, by decide +kernel, by decide +kernel⟩
abbrev s_Undecided___eq__ : Stmt := inClass (topS 20) 1
theorem sc_Undecided___eq__ : FnScope ["self", "other"] ["self", "other"] (defScope s_Undecided___eq__) := ⟨rfl, rfl, rfl, by decide +kernel, rfl, by decide +kernel, by decide +kernel⟩
abbrev s_Bound___eq__ : Stmt := inClass (topS 22) 1
theorem sc_Bound___eq__ : FnScope ["self", "other"] ["self", "other"] (defScope s_Bound___eq__) := ⟨rfl, rfl, rfl, by decide +kernel, rfl, by decide +kernel, by decide +kernel⟩
abbrev s_Endless___eq__ : Stmt := inClass (topS 23) 1
theorem sc_Endless___eq__ : FnScope ["self", "other"] ["self", "other"] (defScope s_Endless___eq__) := ⟨rfl, rfl, rfl, by decide +kernel, rfl, by decide +kernel, by decide +kernel⟩
abbrev s_Within___eq__ : Stmt := inClass (topS 24) 1
theorem sc_Within___eq__ : FnScope ["self", "other"] ["self", "other"] (defScope s_Within___eq__) := ⟨rfl, rfl, rfl, by decide +kernel, rfl, by decide +kernel, by decide +kernel⟩
abbrev s_Beyond___eq__ : Stmt := inClass (topS 25) 1
theorem sc_Beyond___eq__ : FnScope ["self", "other"] ["self", "other"] (defScope s_Beyond___eq__) := ⟨rfl, rfl, rfl, by decide +kernel, rfl, by decide +kernel, by decide +kernel⟩
abbrev s_Latest___eq__ : Stmt := inClass (topS 27) 1
theorem sc_Latest___eq__ : FnScope ["self", "other"] ["self", "other"] (defScope s_Latest___eq__) := ⟨rfl, rfl, rfl, by decide +kernel, rfl, by decide +kernel, by decide +kernel⟩
abbrev s_Taking___eq__ : Stmt := inClass (topS 29) 1
theorem sc_Taking___eq__ : FnScope ["self", "other", "mine"] ["self", "other"] (defScope s_Taking___eq__) := ⟨rfl, rfl, rfl, by decide +kernel, rfl, by decide +kernel, by decide +kernel⟩
abbrev s_Fits___eq__ : Stmt := inClass (topS 31) 1
theorem sc_Fits___eq__ : FnScope ["self", "other"] ["self", "other"] (defScope s_Fits___eq__) := ⟨rfl, rfl, rfl, by decide +kernel, rfl, by decide +kernel, by decide +kernel⟩
abbrev s_Misfit___eq__ : Stmt := inClass (topS 32) 1
theorem sc_Misfit___eq__ : FnScope ["self", "other"] ["self", "other"] (defScope s_Misfit___eq__) := ⟨rfl, rfl, rfl, by decide +kernel, rfl, by decide +kernel, by decide +kernel⟩
abbrev s_Ring___eq__ : Stmt := inClass (topS 33) 1
theorem sc_Ring___eq__ : FnScope ["self", "other"] ["self", "other"] (defScope s_Ring___eq__) := ⟨rfl, rfl, rfl, by decide +kernel, rfl, by decide +kernel, by decide +kernel⟩
abbrev s_Came___eq__ : Stmt := inClass (topS 34) 1
theorem sc_Came___eq__ : FnScope ["self", "other"] ["self", "other"] (defScope s_Came___eq__) := ⟨rfl, rfl, rfl, by decide +kernel, rfl, by decide +kernel, by decide +kernel⟩
abbrev s_BestOrder___eq__ : Stmt := inClass (topS 36) 1
theorem sc_BestOrder___eq__ : FnScope ["self", "other"] ["self", "other"] (defScope s_BestOrder___eq__) := ⟨rfl, rfl, rfl, by decide +kernel, rfl, by decide +kernel, by decide +kernel⟩
abbrev s_PoolTaking___eq__ : Stmt := inClass (topS 38) 2
theorem sc_PoolTaking___eq__ : FnScope ["self", "other"] ["self", "other"] (defScope s_PoolTaking___eq__) := ⟨rfl, rfl, rfl, by decide +kernel, rfl, by decide +kernel, by decide +kernel⟩
abbrev s_PoolTaking_own_row : Stmt := inClass (topS 38) 1
theorem sc_PoolTaking_own_row : FnScope ["self"] ["self"] (defScope s_PoolTaking_own_row) := ⟨rfl, rfl, rfl, by decide +kernel, rfl, by decide +kernel, by decide +kernel⟩
section
variable {P : Program} {w : World} {K : PySem.W.Frag} {mg : Str → Option Value} {base : Heap} {cs : List Addr} {CP CD fb : Addr}
theorem all1 {b : Bool} : [b].all id = b := by simp
def spOwnRow (C : Addr) : Sp := fun vs H Q _ => ∃ p fs x1 x2 x3 x4 x5, vs = [.ref p] ∧ PaAt H p C fs ∧ fs.lookup ("loop" : Str) = some x1 ∧ fs.lookup ("worker" : Str) = some x2 ∧ fs.lookup ("many" : Str) = some x3 ∧ fs.lookup ("begun" : Str) = some x4 ∧ fs.lookup ("ended" : Str) = some x5 ∧ ∀ t H', Ex H H' → H' t = some (.tup [x1, x2, x3, x4, x5]) → Q (.ref t) H'
theorem ok_own_row {f : Addr} {fd : FuncData} (F : Fun K "own_row" "PoolTaking.own_row" s_PoolTaking_own_row f fd) (T : Txt K mg cs CP CD fb) : FnOk P w K mg base (L2.CX P w) 1 f fd ["self"] (spOwnRow (cs.getD 26 0)) := by
  refine funO F sc_PoolTaking_own_row (fun vs H Q E h => ?_) (fun cd A fr s H vs Q E hr h => ?_)
  · obtain ⟨p, fs, x1, x2, x3, x4, x5, rfl, _⟩ := h; rfl
  · obtain ⟨p, fs, x1, x2, x3, x4, x5, rfl, ⟨dx, g⟩, l1, l2, l3, l4, l5, k⟩ := h
    refine ⟨_, (pss_one (ps_ret (pe_tup (pa_cons (KX.fld (K := K) rfl (pv 0) rfl) (pa_cons (KX.fld (K := K) rfl (pv 0) rfl) (pa_cons (KX.fld (K := K) rfl (pv 0) rfl) (pa_cons (KX.fld (K := K) rfl (pv 0) rfl) (pa_cons (KX.fld (K := K) rfl (pv 0) rfl) pa_nil)))))))), ?_⟩
    tm_at "s"
    refine ⟨p, _, dx, _, _, rfl, g, T.cl 26 (by decide), T.fld 26 (by decide) "loop" (by decide), l1, ?_⟩
    tm_at "s"
    refine ⟨p, _, dx, _, _, rfl, g, T.cl 26 (by decide), T.fld 26 (by decide) "worker" (by decide), l2, ?_⟩
    tm_at "s"
    refine ⟨p, _, dx, _, _, rfl, g, T.cl 26 (by decide), T.fld 26 (by decide) "many" (by decide), l3, ?_⟩
    tm_at "s"
    refine ⟨p, _, dx, _, _, rfl, g, T.cl 26 (by decide), T.fld 26 (by decide) "begun" (by decide), l4, ?_⟩
    tm_at "s"
    refine ⟨p, _, dx, _, _, rfl, g, T.cl 26 (by decide), T.fld 26 (by decide) "ended" (by decide), l5, ?_⟩
    tm_at "s"
    refine s_new (Nat.le_of_lt (small1000 (by simp))) fun t H1 ht e1 h1 => ?_
    exact k t H1 e1 h1
theorem ok_eq_Fewest {f : Addr} {fd : FuncData} (F : Fun K "__eq__" "Fewest.__eq__" s_Fewest___eq__ f fd) (T : Txt K mg cs CP CD fb) : FnOk P w K mg base (L2.CX P w) 2 f fd ["self", "other"] (spEqC K (cs.getD 0 0) ["chunks"]) := by
  refine funO F sc_Fewest___eq__ (fun vs H Q E h => ?_) (fun cd A fr s H vs Q E hr h => ?_)
  · obtain ⟨p, y, fs, rfl, _⟩ := h; rfl
  · obtain ⟨p, y, fs, rfl, ⟨d1, g1⟩, hc⟩ := h
    refine ⟨_, (pss_one (ps_ret (pe_and (pe_callB (KX.callIsi (K := K)) (by rfl) T.b_isinstance (by decide +kernel) (pa_cons (pv 1) (pa_cons (C8.pe_gc (by rfl) T.g_Fewest) pa_nil))) (pe_one (pe_cmpR (KX.pq (K := K) rfl hr.units) (KX.fld (K := K) rfl (pv 0) rfl) (KX.fld (K := K) rfl (pv 1) rfl) (nomark _)))))), ?_⟩
    rcases hc with ⟨q, fs', xs, ys, bs, rfl, ⟨d2, g2⟩, nw1, nw2, m1, m2, ha, k⟩ | ⟨ty, ht, hk, k⟩
    · obtain ⟨x1, y1, b1, rfl, l1, r1, p1⟩ := inv1 m1 m2 ha
      tm_at "s"
      refine s_isiC (T.ty (j := 0) (by decide) g2) (T.kC (j := 0) (by decide)) ?_
      tm_at "s"
      refine ⟨p, _, d1, _, _, rfl, g1, T.cl 0 (by decide), T.fld 0 (by decide) "chunks" (by decide), l1, ?_⟩
      tm_at "s"
      refine ⟨q, _, d2, _, _, rfl, g2, T.cl 0 (by decide), T.fld 0 (by decide) "chunks" (by decide), r1, ?_⟩
      tm_at "s"
      have kk := k _ (Ex.refl _)
      rw [all1] at kk
      exact ⟨b1, p1, kk⟩
    · tm_at "s"
      refine s_isiC ht hk ?_
      tm_at "s"
      exact k _ (Ex.refl _)
theorem ok_eq_NoList {f : Addr} {fd : FuncData} (F : Fun K "__eq__" "NoList.__eq__" s_NoList___eq__ f fd) (T : Txt K mg cs CP CD fb) : FnOk P w K mg base (L2.CX P w) 2 f fd ["self", "other"] (spEqC K (cs.getD 1 0) ["rests"]) := by
  refine funO F sc_NoList___eq__ (fun vs H Q E h => ?_) (fun cd A fr s H vs Q E hr h => ?_)
  · obtain ⟨p, y, fs, rfl, _⟩ := h; rfl
  · obtain ⟨p, y, fs, rfl, ⟨d1, g1⟩, hc⟩ := h
    refine ⟨_, (pss_one (ps_ret (pe_and (pe_callB (KX.callIsi (K := K)) (by rfl) T.b_isinstance (by decide +kernel) (pa_cons (pv 1) (pa_cons (C8.pe_gc (by rfl) T.g_NoList) pa_nil))) (pe_one (pe_cmpR (KX.pq (K := K) rfl hr.units) (KX.fld (K := K) rfl (pv 0) rfl) (KX.fld (K := K) rfl (pv 1) rfl) (nomark _)))))), ?_⟩
    rcases hc with ⟨q, fs', xs, ys, bs, rfl, ⟨d2, g2⟩, nw1, nw2, m1, m2, ha, k⟩ | ⟨ty, ht, hk, k⟩
    · obtain ⟨x1, y1, b1, rfl, l1, r1, p1⟩ := inv1 m1 m2 ha
      tm_at "s"
      refine s_isiC (T.ty (j := 1) (by decide) g2) (T.kC (j := 1) (by decide)) ?_
      tm_at "s"
      refine ⟨p, _, d1, _, _, rfl, g1, T.cl 1 (by decide), T.fld 1 (by decide) "rests" (by decide), l1, ?_⟩
      tm_at "s"
      refine ⟨q, _, d2, _, _, rfl, g2, T.cl 1 (by decide), T.fld 1 (by decide) "rests" (by decide), r1, ?_⟩
      tm_at "s"
      have kk := k _ (Ex.refl _)
      rw [all1] at kk
      exact ⟨b1, p1, kk⟩
    · tm_at "s"
      refine s_isiC ht hk ?_
      tm_at "s"
      exact k _ (Ex.refl _)
theorem ok_eq_Greatest {f : Addr} {fd : FuncData} (F : Fun K "__eq__" "Greatest.__eq__" s_Greatest___eq__ f fd) (T : Txt K mg cs CP CD fb) : FnOk P w K mg base (L2.CX P w) 2 f fd ["self", "other"] (spEqC K (cs.getD 2 0) ["total", "chunks"]) := by
  refine funO F sc_Greatest___eq__ (fun vs H Q E h => ?_) (fun cd A fr s H vs Q E hr h => ?_)
  · obtain ⟨p, y, fs, rfl, _⟩ := h; rfl
  · obtain ⟨p, y, fs, rfl, ⟨d1, g1⟩, hc⟩ := h
    refine ⟨_, (pss_one (ps_ret (pe_and (pe_callB (KX.callIsi (K := K)) (by rfl) T.b_isinstance (by decide +kernel) (pa_cons (pv 1) (pa_cons (C8.pe_gc (by rfl) T.g_Greatest) pa_nil))) (pe_one (pe_cmpR (KX.tq (K := K) rfl (units66 hr)) (pe_tup (pa_cons (KX.fld (K := K) rfl (pv 0) rfl) (pa_cons (KX.fld (K := K) rfl (pv 0) rfl) pa_nil))) (pe_tup (pa_cons (KX.fld (K := K) rfl (pv 1) rfl) (pa_cons (KX.fld (K := K) rfl (pv 1) rfl) pa_nil))) (nomark _)))))), ?_⟩
    rcases hc with ⟨q, fs', xs, ys, bs, rfl, ⟨d2, g2⟩, nw1, nw2, m1, m2, ha, k⟩ | ⟨ty, ht, hk, k⟩
    · obtain ⟨x1, x2, y1, y2, b1, b2, rfl, l1, r1, p1, l2, r2, p2⟩ := inv2 m1 m2 ha
      tm_at "s"
      refine s_isiC (T.ty (j := 2) (by decide) g2) (T.kC (j := 2) (by decide)) ?_
      tm_at "s"
      refine ⟨p, _, d1, _, _, rfl, g1, T.cl 2 (by decide), T.fld 2 (by decide) "total" (by decide), l1, ?_⟩
      tm_at "s"
      refine ⟨p, _, d1, _, _, rfl, g1, T.cl 2 (by decide), T.fld 2 (by decide) "chunks" (by decide), l2, ?_⟩
      tm_at "s"
      refine s_new (Nat.le_of_lt (small1000 (by simp))) fun t1 H1 ht1 e1 h1 => ?_
      tm_at "s"
      have g1 := e1 _ _ g1
      have g2 := e1 _ _ g2
      refine ⟨q, _, d2, _, _, rfl, g2, T.cl 2 (by decide), T.fld 2 (by decide) "total" (by decide), r1, ?_⟩
      tm_at "s"
      refine ⟨q, _, d2, _, _, rfl, g2, T.cl 2 (by decide), T.fld 2 (by decide) "chunks" (by decide), r2, ?_⟩
      tm_at "s"
      refine s_new (Nat.le_of_lt (small1000 (by simp))) fun t2 H2 ht2 e2 h2 => ?_
      refine ⟨t1, t2, _, _, _, rfl, rfl, e2 _ _ h1, h2, (.cons (p1.ex (e1.trans e2)) (.cons (p2.ex (e1.trans e2)) .nil)), ?_⟩
      exact k _ (e1.trans e2)
    · tm_at "s"
      refine s_isiC ht hk ?_
      tm_at "s"
      exact k _ (Ex.refl _)
theorem ok_eq_Least {f : Addr} {fd : FuncData} (F : Fun K "__eq__" "Least.__eq__" s_Least___eq__ f fd) (T : Txt K mg cs CP CD fb) : FnOk P w K mg base (L2.CX P w) 2 f fd ["self", "other"] (spEqC K (cs.getD 3 0) ["limit", "chunks", "below"]) := by
  refine funO F sc_Least___eq__ (fun vs H Q E h => ?_) (fun cd A fr s H vs Q E hr h => ?_)
  · obtain ⟨p, y, fs, rfl, _⟩ := h; rfl
  · obtain ⟨p, y, fs, rfl, ⟨d1, g1⟩, hc⟩ := h
    refine ⟨_, (pss_cons (ps_if (PW.pt (pw_or (pt_not (pt_val (pe_callB (KX.callIsi (K := K)) (by rfl) T.b_isinstance (by decide +kernel) (pa_cons (pv 1) (pa_cons (C8.pe_gc (by rfl) T.g_Least) pa_nil))))) (pw_or1 (pt_cmpR (KX.nq (K := K) rfl hr.units) (KX.fld (K := K) rfl (pv 0) rfl) (KX.fld (K := K) rfl (pv 1) rfl) (nomark _))))) (pss_one (ps_ret pe_bl)) pss_nil)
      (pss_one (ps_ret (pe_cmpR (KX.tq (K := K) rfl (units66 hr)) (pe_tup (pa_cons (KX.fld (K := K) rfl (pv 0) rfl) (pa_cons (KX.fld (K := K) rfl (pv 0) rfl) pa_nil))) (pe_tup (pa_cons (KX.fld (K := K) rfl (pv 1) rfl) (pa_cons (KX.fld (K := K) rfl (pv 1) rfl) pa_nil))) (nomark _))))), ?_⟩
    rcases hc with ⟨q, fs', xs, ys, bs, rfl, ⟨d2, g2⟩, nw1, nw2, m1, m2, ha, k⟩ | ⟨ty, ht, hk, k⟩
    · obtain ⟨x1, x2, x3, y1, y2, y3, b1, b2, b3, rfl, l1, r1, p1, l2, r2, p2, l3, r3, p3⟩ := inv3 m1 m2 ha
      tm_at "s"
      refine s_isiC (T.ty (j := 3) (by decide) g2) (T.kC (j := 3) (by decide)) ?_
      tm_at "s"
      refine ⟨p, _, d1, _, _, rfl, g1, T.cl 3 (by decide), T.fld 3 (by decide) "limit" (by decide), l1, ?_⟩
      tm_at "s"
      refine ⟨q, _, d2, _, _, rfl, g2, T.cl 3 (by decide), T.fld 3 (by decide) "limit" (by decide), r1, ?_⟩
      tm_at "s"
      refine ⟨b1, p1, ?_⟩
      tm_at "s"
      refine iteB (fun z => ?_) (fun z => ?_)
      · tm_at "s"
        have kk := k _ (Ex.refl _)
        rw [show b1 = false by simpa using z] at kk
        simpa using kk
      have z1 : b1 = true := by simpa using z
      tm_at "s"
      refine ⟨p, _, d1, _, _, rfl, g1, T.cl 3 (by decide), T.fld 3 (by decide) "chunks" (by decide), l2, ?_⟩
      tm_at "s"
      refine ⟨p, _, d1, _, _, rfl, g1, T.cl 3 (by decide), T.fld 3 (by decide) "below" (by decide), l3, ?_⟩
      tm_at "s"
      refine s_new (Nat.le_of_lt (small1000 (by simp))) fun t1 H1 ht1 e1 h1 => ?_
      tm_at "s"
      have g1 := e1 _ _ g1
      have g2 := e1 _ _ g2
      refine ⟨q, _, d2, _, _, rfl, g2, T.cl 3 (by decide), T.fld 3 (by decide) "chunks" (by decide), r2, ?_⟩
      tm_at "s"
      refine ⟨q, _, d2, _, _, rfl, g2, T.cl 3 (by decide), T.fld 3 (by decide) "below" (by decide), r3, ?_⟩
      tm_at "s"
      refine s_new (Nat.le_of_lt (small1000 (by simp))) fun t2 H2 ht2 e2 h2 => ?_
      refine ⟨t1, t2, _, _, _, rfl, rfl, e2 _ _ h1, h2, (.cons (p2.ex (e1.trans e2)) (.cons (p3.ex (e1.trans e2)) .nil)), ?_⟩
      have kk := k _ (e1.trans e2)
      rw [z1] at kk
      exact kk
    · tm_at "s"
      refine s_isiC ht hk ?_
      tm_at "s"
      exact k _ (Ex.refl _)
theorem ok_eq_BatchBound {f : Addr} {fd : FuncData} (F : Fun K "__eq__" "BatchBound.__eq__" s_BatchBound___eq__ f fd) (T : Txt K mg cs CP CD fb) : FnOk P w K mg base (L2.CX P w) 2 f fd ["self", "other"] (spEqC K (cs.getD 4 0) ["late", "rest", "spot"]) := by
  refine funO F sc_BatchBound___eq__ (fun vs H Q E h => ?_) (fun cd A fr s H vs Q E hr h => ?_)
  · obtain ⟨p, y, fs, rfl, _⟩ := h; rfl
  · obtain ⟨p, y, fs, rfl, ⟨d1, g1⟩, hc⟩ := h
    refine ⟨_, (pss_cons (ps_if (pt_not (pt_val (pe_callB (KX.callIsi (K := K)) (by rfl) T.b_isinstance (by decide +kernel) (pa_cons (pv 1) (pa_cons (C8.pe_gc (by rfl) T.g_BatchBound) pa_nil))))) (pss_one (ps_ret pe_bl)) pss_nil)
      (pss_one (ps_ret (pe_cmpR (KX.tq (K := K) rfl (units66 hr)) (pe_tup (pa_cons (KX.fld (K := K) rfl (pv 0) rfl) (pa_cons (KX.fld (K := K) rfl (pv 0) rfl) (pa_cons (KX.fld (K := K) rfl (pv 0) rfl) pa_nil)))) (pe_tup (pa_cons (KX.fld (K := K) rfl (pv 1) rfl) (pa_cons (KX.fld (K := K) rfl (pv 1) rfl) (pa_cons (KX.fld (K := K) rfl (pv 1) rfl) pa_nil)))) (nomark _))))), ?_⟩
    rcases hc with ⟨q, fs', xs, ys, bs, rfl, ⟨d2, g2⟩, nw1, nw2, m1, m2, ha, k⟩ | ⟨ty, ht, hk, k⟩
    · obtain ⟨x1, x2, x3, y1, y2, y3, b1, b2, b3, rfl, l1, r1, p1, l2, r2, p2, l3, r3, p3⟩ := inv3 m1 m2 ha
      tm_at "s"
      refine s_isiC (T.ty (j := 4) (by decide) g2) (T.kC (j := 4) (by decide)) ?_
      tm_at "s"
      refine ⟨p, _, d1, _, _, rfl, g1, T.cl 4 (by decide), T.fld 4 (by decide) "late" (by decide), l1, ?_⟩
      tm_at "s"
      refine ⟨p, _, d1, _, _, rfl, g1, T.cl 4 (by decide), T.fld 4 (by decide) "rest" (by decide), l2, ?_⟩
      tm_at "s"
      refine ⟨p, _, d1, _, _, rfl, g1, T.cl 4 (by decide), T.fld 4 (by decide) "spot" (by decide), l3, ?_⟩
      tm_at "s"
      refine s_new (Nat.le_of_lt (small1000 (by simp))) fun t1 H1 ht1 e1 h1 => ?_
      tm_at "s"
      have g1 := e1 _ _ g1
      have g2 := e1 _ _ g2
      refine ⟨q, _, d2, _, _, rfl, g2, T.cl 4 (by decide), T.fld 4 (by decide) "late" (by decide), r1, ?_⟩
      tm_at "s"
      refine ⟨q, _, d2, _, _, rfl, g2, T.cl 4 (by decide), T.fld 4 (by decide) "rest" (by decide), r2, ?_⟩
      tm_at "s"
      refine ⟨q, _, d2, _, _, rfl, g2, T.cl 4 (by decide), T.fld 4 (by decide) "spot" (by decide), r3, ?_⟩
      tm_at "s"
      refine s_new (Nat.le_of_lt (small1000 (by simp))) fun t2 H2 ht2 e2 h2 => ?_
      refine ⟨t1, t2, _, _, _, rfl, rfl, e2 _ _ h1, h2, (.cons (p1.ex (e1.trans e2)) (.cons (p2.ex (e1.trans e2)) (.cons (p3.ex (e1.trans e2)) .nil))), ?_⟩
      exact k _ (e1.trans e2)
    · tm_at "s"
      refine s_isiC ht hk ?_
      tm_at "s"
      exact k _ (Ex.refl _)
theorem ok_eq_BatchEndless {f : Addr} {fd : FuncData} (F : Fun K "__eq__" "BatchEndless.__eq__" s_BatchEndless___eq__ f fd) (T : Txt K mg cs CP CD fb) : FnOk P w K mg base (L2.CX P w) 2 f fd ["self", "other"] (spEqC K (cs.getD 5 0) ["spot", "rise"]) := by
  refine funO F sc_BatchEndless___eq__ (fun vs H Q E h => ?_) (fun cd A fr s H vs Q E hr h => ?_)
  · obtain ⟨p, y, fs, rfl, _⟩ := h; rfl
  · obtain ⟨p, y, fs, rfl, ⟨d1, g1⟩, hc⟩ := h
    refine ⟨_, (pss_one (ps_ret (pe_and (pe_callB (KX.callIsi (K := K)) (by rfl) T.b_isinstance (by decide +kernel) (pa_cons (pv 1) (pa_cons (C8.pe_gc (by rfl) T.g_BatchEndless) pa_nil))) (pe_one (pe_cmpR (KX.tq (K := K) rfl (units66 hr)) (pe_tup (pa_cons (KX.fld (K := K) rfl (pv 0) rfl) (pa_cons (KX.fld (K := K) rfl (pv 0) rfl) pa_nil))) (pe_tup (pa_cons (KX.fld (K := K) rfl (pv 1) rfl) (pa_cons (KX.fld (K := K) rfl (pv 1) rfl) pa_nil))) (nomark _)))))), ?_⟩
    rcases hc with ⟨q, fs', xs, ys, bs, rfl, ⟨d2, g2⟩, nw1, nw2, m1, m2, ha, k⟩ | ⟨ty, ht, hk, k⟩
    · obtain ⟨x1, x2, y1, y2, b1, b2, rfl, l1, r1, p1, l2, r2, p2⟩ := inv2 m1 m2 ha
      tm_at "s"
      refine s_isiC (T.ty (j := 5) (by decide) g2) (T.kC (j := 5) (by decide)) ?_
      tm_at "s"
      refine ⟨p, _, d1, _, _, rfl, g1, T.cl 5 (by decide), T.fld 5 (by decide) "spot" (by decide), l1, ?_⟩
      tm_at "s"
      refine ⟨p, _, d1, _, _, rfl, g1, T.cl 5 (by decide), T.fld 5 (by decide) "rise" (by decide), l2, ?_⟩
      tm_at "s"
      refine s_new (Nat.le_of_lt (small1000 (by simp))) fun t1 H1 ht1 e1 h1 => ?_
      tm_at "s"
      have g1 := e1 _ _ g1
      have g2 := e1 _ _ g2
      refine ⟨q, _, d2, _, _, rfl, g2, T.cl 5 (by decide), T.fld 5 (by decide) "spot" (by decide), r1, ?_⟩
      tm_at "s"
      refine ⟨q, _, d2, _, _, rfl, g2, T.cl 5 (by decide), T.fld 5 (by decide) "rise" (by decide), r2, ?_⟩
      tm_at "s"
      refine s_new (Nat.le_of_lt (small1000 (by simp))) fun t2 H2 ht2 e2 h2 => ?_
      refine ⟨t1, t2, _, _, _, rfl, rfl, e2 _ _ h1, h2, (.cons (p1.ex (e1.trans e2)) (.cons (p2.ex (e1.trans e2)) .nil)), ?_⟩
      exact k _ (e1.trans e2)
    · tm_at "s"
      refine s_isiC ht hk ?_
      tm_at "s"
      exact k _ (Ex.refl _)
theorem ok_eq_NeverLess {f : Addr} {fd : FuncData} (F : Fun K "__eq__" "NeverLess.__eq__" s_NeverLess___eq__ f fd) (T : Txt K mg cs CP CD fb) : FnOk P w K mg base (L2.CX P w) 2 f fd ["self", "other"] (spEqC K (cs.getD 6 0) ["begins"]) := by
  refine funO F sc_NeverLess___eq__ (fun vs H Q E h => ?_) (fun cd A fr s H vs Q E hr h => ?_)
  · obtain ⟨p, y, fs, rfl, _⟩ := h; rfl
  · obtain ⟨p, y, fs, rfl, ⟨d1, g1⟩, hc⟩ := h
    refine ⟨_, (pss_one (ps_ret (pe_and (pe_callB (KX.callIsi (K := K)) (by rfl) T.b_isinstance (by decide +kernel) (pa_cons (pv 1) (pa_cons (C8.pe_gc (by rfl) T.g_NeverLess) pa_nil))) (pe_one (pe_cmpR (KX.pq (K := K) rfl hr.units) (KX.fld (K := K) rfl (pv 0) rfl) (KX.fld (K := K) rfl (pv 1) rfl) (nomark _)))))), ?_⟩
    rcases hc with ⟨q, fs', xs, ys, bs, rfl, ⟨d2, g2⟩, nw1, nw2, m1, m2, ha, k⟩ | ⟨ty, ht, hk, k⟩
    · obtain ⟨x1, y1, b1, rfl, l1, r1, p1⟩ := inv1 m1 m2 ha
      tm_at "s"
      refine s_isiC (T.ty (j := 6) (by decide) g2) (T.kC (j := 6) (by decide)) ?_
      tm_at "s"
      refine ⟨p, _, d1, _, _, rfl, g1, T.cl 6 (by decide), T.fld 6 (by decide) "begins" (by decide), l1, ?_⟩
      tm_at "s"
      refine ⟨q, _, d2, _, _, rfl, g2, T.cl 6 (by decide), T.fld 6 (by decide) "begins" (by decide), r1, ?_⟩
      tm_at "s"
      have kk := k _ (Ex.refl _)
      rw [all1] at kk
      exact ⟨b1, p1, kk⟩
    · tm_at "s"
      refine s_isiC ht hk ?_
      tm_at "s"
      exact k _ (Ex.refl _)
theorem ok_eq_Less {f : Addr} {fd : FuncData} (F : Fun K "__eq__" "Less.__eq__" s_Less___eq__ f fd) (T : Txt K mg cs CP CD fb) : FnOk P w K mg base (L2.CX P w) 2 f fd ["self", "other"] (spEqC K (cs.getD 7 0) ["rest"]) := by
  refine funO F sc_Less___eq__ (fun vs H Q E h => ?_) (fun cd A fr s H vs Q E hr h => ?_)
  · obtain ⟨p, y, fs, rfl, _⟩ := h; rfl
  · obtain ⟨p, y, fs, rfl, ⟨d1, g1⟩, hc⟩ := h
    refine ⟨_, (pss_one (ps_ret (pe_and (pe_callB (KX.callIsi (K := K)) (by rfl) T.b_isinstance (by decide +kernel) (pa_cons (pv 1) (pa_cons (C8.pe_gc (by rfl) T.g_Less) pa_nil))) (pe_one (pe_cmpR (KX.pq (K := K) rfl hr.units) (KX.fld (K := K) rfl (pv 0) rfl) (KX.fld (K := K) rfl (pv 1) rfl) (nomark _)))))), ?_⟩
    rcases hc with ⟨q, fs', xs, ys, bs, rfl, ⟨d2, g2⟩, nw1, nw2, m1, m2, ha, k⟩ | ⟨ty, ht, hk, k⟩
    · obtain ⟨x1, y1, b1, rfl, l1, r1, p1⟩ := inv1 m1 m2 ha
      tm_at "s"
      refine s_isiC (T.ty (j := 7) (by decide) g2) (T.kC (j := 7) (by decide)) ?_
      tm_at "s"
      refine ⟨p, _, d1, _, _, rfl, g1, T.cl 7 (by decide), T.fld 7 (by decide) "rest" (by decide), l1, ?_⟩
      tm_at "s"
      refine ⟨q, _, d2, _, _, rfl, g2, T.cl 7 (by decide), T.fld 7 (by decide) "rest" (by decide), r1, ?_⟩
      tm_at "s"
      have kk := k _ (Ex.refl _)
      rw [all1] at kk
      exact ⟨b1, p1, kk⟩
    · tm_at "s"
      refine s_isiC ht hk ?_
      tm_at "s"
      exact k _ (Ex.refl _)
theorem ok_eq_Steady {f : Addr} {fd : FuncData} (F : Fun K "__eq__" "Steady.__eq__" s_Steady___eq__ f fd) (T : Txt K mg cs CP CD fb) : FnOk P w K mg base (L2.CX P w) 2 f fd ["self", "other"] (spEqC K (cs.getD 8 0) ["begins"]) := by
  refine funO F sc_Steady___eq__ (fun vs H Q E h => ?_) (fun cd A fr s H vs Q E hr h => ?_)
  · obtain ⟨p, y, fs, rfl, _⟩ := h; rfl
  · obtain ⟨p, y, fs, rfl, ⟨d1, g1⟩, hc⟩ := h
    refine ⟨_, (pss_one (ps_ret (pe_and (pe_callB (KX.callIsi (K := K)) (by rfl) T.b_isinstance (by decide +kernel) (pa_cons (pv 1) (pa_cons (C8.pe_gc (by rfl) T.g_Steady) pa_nil))) (pe_one (pe_cmpR (KX.pq (K := K) rfl hr.units) (KX.fld (K := K) rfl (pv 0) rfl) (KX.fld (K := K) rfl (pv 1) rfl) (nomark _)))))), ?_⟩
    rcases hc with ⟨q, fs', xs, ys, bs, rfl, ⟨d2, g2⟩, nw1, nw2, m1, m2, ha, k⟩ | ⟨ty, ht, hk, k⟩
    · obtain ⟨x1, y1, b1, rfl, l1, r1, p1⟩ := inv1 m1 m2 ha
      tm_at "s"
      refine s_isiC (T.ty (j := 8) (by decide) g2) (T.kC (j := 8) (by decide)) ?_
      tm_at "s"
      refine ⟨p, _, d1, _, _, rfl, g1, T.cl 8 (by decide), T.fld 8 (by decide) "begins" (by decide), l1, ?_⟩
      tm_at "s"
      refine ⟨q, _, d2, _, _, rfl, g2, T.cl 8 (by decide), T.fld 8 (by decide) "begins" (by decide), r1, ?_⟩
      tm_at "s"
      have kk := k _ (Ex.refl _)
      rw [all1] at kk
      exact ⟨b1, p1, kk⟩
    · tm_at "s"
      refine s_isiC ht hk ?_
      tm_at "s"
      exact k _ (Ex.refl _)
theorem ok_eq_Jump {f : Addr} {fd : FuncData} (F : Fun K "__eq__" "Jump.__eq__" s_Jump___eq__ f fd) (T : Txt K mg cs CP CD fb) : FnOk P w K mg base (L2.CX P w) 2 f fd ["self", "other"] (spEqC K (cs.getD 9 0) ["rest"]) := by
  refine funO F sc_Jump___eq__ (fun vs H Q E h => ?_) (fun cd A fr s H vs Q E hr h => ?_)
  · obtain ⟨p, y, fs, rfl, _⟩ := h; rfl
  · obtain ⟨p, y, fs, rfl, ⟨d1, g1⟩, hc⟩ := h
    refine ⟨_, (pss_one (ps_ret (pe_and (pe_callB (KX.callIsi (K := K)) (by rfl) T.b_isinstance (by decide +kernel) (pa_cons (pv 1) (pa_cons (C8.pe_gc (by rfl) T.g_Jump) pa_nil))) (pe_one (pe_cmpR (KX.pq (K := K) rfl hr.units) (KX.fld (K := K) rfl (pv 0) rfl) (KX.fld (K := K) rfl (pv 1) rfl) (nomark _)))))), ?_⟩
    rcases hc with ⟨q, fs', xs, ys, bs, rfl, ⟨d2, g2⟩, nw1, nw2, m1, m2, ha, k⟩ | ⟨ty, ht, hk, k⟩
    · obtain ⟨x1, y1, b1, rfl, l1, r1, p1⟩ := inv1 m1 m2 ha
      tm_at "s"
      refine s_isiC (T.ty (j := 9) (by decide) g2) (T.kC (j := 9) (by decide)) ?_
      tm_at "s"
      refine ⟨p, _, d1, _, _, rfl, g1, T.cl 9 (by decide), T.fld 9 (by decide) "rest" (by decide), l1, ?_⟩
      tm_at "s"
      refine ⟨q, _, d2, _, _, rfl, g2, T.cl 9 (by decide), T.fld 9 (by decide) "rest" (by decide), r1, ?_⟩
      tm_at "s"
      have kk := k _ (Ex.refl _)
      rw [all1] at kk
      exact ⟨b1, p1, kk⟩
    · tm_at "s"
      refine s_isiC ht hk ?_
      tm_at "s"
      exact k _ (Ex.refl _)
theorem ok_eq_Same {f : Addr} {fd : FuncData} (F : Fun K "__eq__" "Same.__eq__" s_Same___eq__ f fd) (T : Txt K mg cs CP CD fb) : FnOk P w K mg base (L2.CX P w) 2 f fd ["self", "other"] (spEqC K (cs.getD 10 0) ["first", "last"]) := by
  refine funO F sc_Same___eq__ (fun vs H Q E h => ?_) (fun cd A fr s H vs Q E hr h => ?_)
  · obtain ⟨p, y, fs, rfl, _⟩ := h; rfl
  · obtain ⟨p, y, fs, rfl, ⟨d1, g1⟩, hc⟩ := h
    refine ⟨_, (pss_one (ps_ret (pe_and (pe_callB (KX.callIsi (K := K)) (by rfl) T.b_isinstance (by decide +kernel) (pa_cons (pv 1) (pa_cons (C8.pe_gc (by rfl) T.g_Same) pa_nil))) (pe_one (pe_cmpR (KX.tq (K := K) rfl (units66 hr)) (pe_tup (pa_cons (KX.fld (K := K) rfl (pv 0) rfl) (pa_cons (KX.fld (K := K) rfl (pv 0) rfl) pa_nil))) (pe_tup (pa_cons (KX.fld (K := K) rfl (pv 1) rfl) (pa_cons (KX.fld (K := K) rfl (pv 1) rfl) pa_nil))) (nomark _)))))), ?_⟩
    rcases hc with ⟨q, fs', xs, ys, bs, rfl, ⟨d2, g2⟩, nw1, nw2, m1, m2, ha, k⟩ | ⟨ty, ht, hk, k⟩
    · obtain ⟨x1, x2, y1, y2, b1, b2, rfl, l1, r1, p1, l2, r2, p2⟩ := inv2 m1 m2 ha
      tm_at "s"
      refine s_isiC (T.ty (j := 10) (by decide) g2) (T.kC (j := 10) (by decide)) ?_
      tm_at "s"
      refine ⟨p, _, d1, _, _, rfl, g1, T.cl 10 (by decide), T.fld 10 (by decide) "first" (by decide), l1, ?_⟩
      tm_at "s"
      refine ⟨p, _, d1, _, _, rfl, g1, T.cl 10 (by decide), T.fld 10 (by decide) "last" (by decide), l2, ?_⟩
      tm_at "s"
      refine s_new (Nat.le_of_lt (small1000 (by simp))) fun t1 H1 ht1 e1 h1 => ?_
      tm_at "s"
      have g1 := e1 _ _ g1
      have g2 := e1 _ _ g2
      refine ⟨q, _, d2, _, _, rfl, g2, T.cl 10 (by decide), T.fld 10 (by decide) "first" (by decide), r1, ?_⟩
      tm_at "s"
      refine ⟨q, _, d2, _, _, rfl, g2, T.cl 10 (by decide), T.fld 10 (by decide) "last" (by decide), r2, ?_⟩
      tm_at "s"
      refine s_new (Nat.le_of_lt (small1000 (by simp))) fun t2 H2 ht2 e2 h2 => ?_
      refine ⟨t1, t2, _, _, _, rfl, rfl, e2 _ _ h1, h2, (.cons (p1.ex (e1.trans e2)) (.cons (p2.ex (e1.trans e2)) .nil)), ?_⟩
      exact k _ (e1.trans e2)
    · tm_at "s"
      refine s_isiC ht hk ?_
      tm_at "s"
      exact k _ (Ex.refl _)
theorem ok_eq_Other {f : Addr} {fd : FuncData} (F : Fun K "__eq__" "Other.__eq__" s_Other___eq__ f fd) (T : Txt K mg cs CP CD fb) : FnOk P w K mg base (L2.CX P w) 2 f fd ["self", "other"] (spEqC K (cs.getD 11 0) ["rest"]) := by
  refine funO F sc_Other___eq__ (fun vs H Q E h => ?_) (fun cd A fr s H vs Q E hr h => ?_)
  · obtain ⟨p, y, fs, rfl, _⟩ := h; rfl
  · obtain ⟨p, y, fs, rfl, ⟨d1, g1⟩, hc⟩ := h
    refine ⟨_, (pss_one (ps_ret (pe_and (pe_callB (KX.callIsi (K := K)) (by rfl) T.b_isinstance (by decide +kernel) (pa_cons (pv 1) (pa_cons (C8.pe_gc (by rfl) T.g_Other) pa_nil))) (pe_one (pe_cmpR (KX.pq (K := K) rfl hr.units) (KX.fld (K := K) rfl (pv 0) rfl) (KX.fld (K := K) rfl (pv 1) rfl) (nomark _)))))), ?_⟩
    rcases hc with ⟨q, fs', xs, ys, bs, rfl, ⟨d2, g2⟩, nw1, nw2, m1, m2, ha, k⟩ | ⟨ty, ht, hk, k⟩
    · obtain ⟨x1, y1, b1, rfl, l1, r1, p1⟩ := inv1 m1 m2 ha
      tm_at "s"
      refine s_isiC (T.ty (j := 11) (by decide) g2) (T.kC (j := 11) (by decide)) ?_
      tm_at "s"
      refine ⟨p, _, d1, _, _, rfl, g1, T.cl 11 (by decide), T.fld 11 (by decide) "rest" (by decide), l1, ?_⟩
      tm_at "s"
      refine ⟨q, _, d2, _, _, rfl, g2, T.cl 11 (by decide), T.fld 11 (by decide) "rest" (by decide), r1, ?_⟩
      tm_at "s"
      have kk := k _ (Ex.refl _)
      rw [all1] at kk
      exact ⟨b1, p1, kk⟩
    · tm_at "s"
      refine s_isiC ht hk ?_
      tm_at "s"
      exact k _ (Ex.refl _)
theorem ok_eq_Surely {f : Addr} {fd : FuncData} (F : Fun K "__eq__" "Surely.__eq__" s_Surely___eq__ f fd) (T : Txt K mg cs CP CD fb) : FnOk P w K mg base (L2.CX P w) 2 f fd ["self", "other"] (spEqC K (cs.getD 12 0) ["never", "steady"]) := by
  refine funO F sc_Surely___eq__ (fun vs H Q E h => ?_) (fun cd A fr s H vs Q E hr h => ?_)
  · obtain ⟨p, y, fs, rfl, _⟩ := h; rfl
  · obtain ⟨p, y, fs, rfl, ⟨d1, g1⟩, hc⟩ := h
    refine ⟨_, (pss_one (ps_ret (pe_and (pe_callB (KX.callIsi (K := K)) (by rfl) T.b_isinstance (by decide +kernel) (pa_cons (pv 1) (pa_cons (C8.pe_gc (by rfl) T.g_Surely) pa_nil))) (pe_one (pe_cmpR (KX.tq (K := K) rfl (units66 hr)) (pe_tup (pa_cons (KX.fld (K := K) rfl (pv 0) rfl) (pa_cons (KX.fld (K := K) rfl (pv 0) rfl) pa_nil))) (pe_tup (pa_cons (KX.fld (K := K) rfl (pv 1) rfl) (pa_cons (KX.fld (K := K) rfl (pv 1) rfl) pa_nil))) (nomark _)))))), ?_⟩
    rcases hc with ⟨q, fs', xs, ys, bs, rfl, ⟨d2, g2⟩, nw1, nw2, m1, m2, ha, k⟩ | ⟨ty, ht, hk, k⟩
    · obtain ⟨x1, x2, y1, y2, b1, b2, rfl, l1, r1, p1, l2, r2, p2⟩ := inv2 m1 m2 ha
      tm_at "s"
      refine s_isiC (T.ty (j := 12) (by decide) g2) (T.kC (j := 12) (by decide)) ?_
      tm_at "s"
      refine ⟨p, _, d1, _, _, rfl, g1, T.cl 12 (by decide), T.fld 12 (by decide) "never" (by decide), l1, ?_⟩
      tm_at "s"
      refine ⟨p, _, d1, _, _, rfl, g1, T.cl 12 (by decide), T.fld 12 (by decide) "steady" (by decide), l2, ?_⟩
      tm_at "s"
      refine s_new (Nat.le_of_lt (small1000 (by simp))) fun t1 H1 ht1 e1 h1 => ?_
      tm_at "s"
      have g1 := e1 _ _ g1
      have g2 := e1 _ _ g2
      refine ⟨q, _, d2, _, _, rfl, g2, T.cl 12 (by decide), T.fld 12 (by decide) "never" (by decide), r1, ?_⟩
      tm_at "s"
      refine ⟨q, _, d2, _, _, rfl, g2, T.cl 12 (by decide), T.fld 12 (by decide) "steady" (by decide), r2, ?_⟩
      tm_at "s"
      refine s_new (Nat.le_of_lt (small1000 (by simp))) fun t2 H2 ht2 e2 h2 => ?_
      refine ⟨t1, t2, _, _, _, rfl, rfl, e2 _ _ h1, h2, (.cons (p1.ex (e1.trans e2)) (.cons (p2.ex (e1.trans e2)) .nil)), ?_⟩
      exact k _ (e1.trans e2)
    · tm_at "s"
      refine s_isiC ht hk ?_
      tm_at "s"
      exact k _ (Ex.refl _)
theorem ok_eq_Counter {f : Addr} {fd : FuncData} (F : Fun K "__eq__" "Counter.__eq__" s_Counter___eq__ f fd) (T : Txt K mg cs CP CD fb) : FnOk P w K mg base (L2.CX P w) 2 f fd ["self", "other"] (spEqC K (cs.getD 13 0) ["total", "counts"]) := by
  refine funO F sc_Counter___eq__ (fun vs H Q E h => ?_) (fun cd A fr s H vs Q E hr h => ?_)
  · obtain ⟨p, y, fs, rfl, _⟩ := h; rfl
  · obtain ⟨p, y, fs, rfl, ⟨d1, g1⟩, hc⟩ := h
    refine ⟨_, (pss_one (ps_ret (pe_and (pe_callB (KX.callIsi (K := K)) (by rfl) T.b_isinstance (by decide +kernel) (pa_cons (pv 1) (pa_cons (C8.pe_gc (by rfl) T.g_Counter) pa_nil))) (pe_one (pe_cmpR (KX.tq (K := K) rfl (units66 hr)) (pe_tup (pa_cons (KX.fld (K := K) rfl (pv 0) rfl) (pa_cons (KX.fld (K := K) rfl (pv 0) rfl) pa_nil))) (pe_tup (pa_cons (KX.fld (K := K) rfl (pv 1) rfl) (pa_cons (KX.fld (K := K) rfl (pv 1) rfl) pa_nil))) (nomark _)))))), ?_⟩
    rcases hc with ⟨q, fs', xs, ys, bs, rfl, ⟨d2, g2⟩, nw1, nw2, m1, m2, ha, k⟩ | ⟨ty, ht, hk, k⟩
    · obtain ⟨x1, x2, y1, y2, b1, b2, rfl, l1, r1, p1, l2, r2, p2⟩ := inv2 m1 m2 ha
      tm_at "s"
      refine s_isiC (T.ty (j := 13) (by decide) g2) (T.kC (j := 13) (by decide)) ?_
      tm_at "s"
      refine ⟨p, _, d1, _, _, rfl, g1, T.cl 13 (by decide), T.fld 13 (by decide) "total" (by decide), l1, ?_⟩
      tm_at "s"
      refine ⟨p, _, d1, _, _, rfl, g1, T.cl 13 (by decide), T.fld 13 (by decide) "counts" (by decide), l2, ?_⟩
      tm_at "s"
      refine s_new (Nat.le_of_lt (small1000 (by simp))) fun t1 H1 ht1 e1 h1 => ?_
      tm_at "s"
      have g1 := e1 _ _ g1
      have g2 := e1 _ _ g2
      refine ⟨q, _, d2, _, _, rfl, g2, T.cl 13 (by decide), T.fld 13 (by decide) "total" (by decide), r1, ?_⟩
      tm_at "s"
      refine ⟨q, _, d2, _, _, rfl, g2, T.cl 13 (by decide), T.fld 13 (by decide) "counts" (by decide), r2, ?_⟩
      tm_at "s"
      refine s_new (Nat.le_of_lt (small1000 (by simp))) fun t2 H2 ht2 e2 h2 => ?_
      refine ⟨t1, t2, _, _, _, rfl, rfl, e2 _ _ h1, h2, (.cons (p1.ex (e1.trans e2)) (.cons (p2.ex (e1.trans e2)) .nil)), ?_⟩
      exact k _ (e1.trans e2)
    · tm_at "s"
      refine s_isiC ht hk ?_
      tm_at "s"
      exact k _ (Ex.refl _)
theorem ok_eq_Undecided {f : Addr} {fd : FuncData} (F : Fun K "__eq__" "Undecided.__eq__" s_Undecided___eq__ f fd) (T : Txt K mg cs CP CD fb) : FnOk P w K mg base (L2.CX P w) 2 f fd ["self", "other"] (spEqC K (cs.getD 14 0) ["upto"]) := by
  refine funO F sc_Undecided___eq__ (fun vs H Q E h => ?_) (fun cd A fr s H vs Q E hr h => ?_)
  · obtain ⟨p, y, fs, rfl, _⟩ := h; rfl
  · obtain ⟨p, y, fs, rfl, ⟨d1, g1⟩, hc⟩ := h
    refine ⟨_, (pss_one (ps_ret (pe_and (pe_callB (KX.callIsi (K := K)) (by rfl) T.b_isinstance (by decide +kernel) (pa_cons (pv 1) (pa_cons (C8.pe_gc (by rfl) T.g_Undecided) pa_nil))) (pe_one (pe_cmpR (KX.pq (K := K) rfl hr.units) (KX.fld (K := K) rfl (pv 0) rfl) (KX.fld (K := K) rfl (pv 1) rfl) (nomark _)))))), ?_⟩
    rcases hc with ⟨q, fs', xs, ys, bs, rfl, ⟨d2, g2⟩, nw1, nw2, m1, m2, ha, k⟩ | ⟨ty, ht, hk, k⟩
    · obtain ⟨x1, y1, b1, rfl, l1, r1, p1⟩ := inv1 m1 m2 ha
      tm_at "s"
      refine s_isiC (T.ty (j := 14) (by decide) g2) (T.kC (j := 14) (by decide)) ?_
      tm_at "s"
      refine ⟨p, _, d1, _, _, rfl, g1, T.cl 14 (by decide), T.fld 14 (by decide) "upto" (by decide), l1, ?_⟩
      tm_at "s"
      refine ⟨q, _, d2, _, _, rfl, g2, T.cl 14 (by decide), T.fld 14 (by decide) "upto" (by decide), r1, ?_⟩
      tm_at "s"
      have kk := k _ (Ex.refl _)
      rw [all1] at kk
      exact ⟨b1, p1, kk⟩
    · tm_at "s"
      refine s_isiC ht hk ?_
      tm_at "s"
      exact k _ (Ex.refl _)
theorem ok_eq_Bound {f : Addr} {fd : FuncData} (F : Fun K "__eq__" "Bound.__eq__" s_Bound___eq__ f fd) (T : Txt K mg cs CP CD fb) : FnOk P w K mg base (L2.CX P w) 2 f fd ["self", "other"] (spEqC K (cs.getD 15 0) ["late", "rest"]) := by
  refine funO F sc_Bound___eq__ (fun vs H Q E h => ?_) (fun cd A fr s H vs Q E hr h => ?_)
  · obtain ⟨p, y, fs, rfl, _⟩ := h; rfl
  · obtain ⟨p, y, fs, rfl, ⟨d1, g1⟩, hc⟩ := h
    refine ⟨_, (pss_one (ps_ret (pe_and (pe_callB (KX.callIsi (K := K)) (by rfl) T.b_isinstance (by decide +kernel) (pa_cons (pv 1) (pa_cons (C8.pe_gc (by rfl) T.g_Bound) pa_nil))) (pe_and (pe_cmpR (KX.pq (K := K) rfl hr.units) (KX.fld (K := K) rfl (pv 0) rfl) (KX.fld (K := K) rfl (pv 1) rfl) (nomark _)) (pe_one (pe_cmpR (KX.pq (K := K) rfl hr.units) (KX.fld (K := K) rfl (pv 0) rfl) (KX.fld (K := K) rfl (pv 1) rfl) (nomark _))))))), ?_⟩
    rcases hc with ⟨q, fs', xs, ys, bs, rfl, ⟨d2, g2⟩, nw1, nw2, m1, m2, ha, k⟩ | ⟨ty, ht, hk, k⟩
    · obtain ⟨x1, x2, y1, y2, b1, b2, rfl, l1, r1, p1, l2, r2, p2⟩ := inv2 m1 m2 ha
      tm_at "s"
      refine s_isiC (T.ty (j := 15) (by decide) g2) (T.kC (j := 15) (by decide)) ?_
      tm_at "s"
      refine ⟨p, _, d1, _, _, rfl, g1, T.cl 15 (by decide), T.fld 15 (by decide) "late" (by decide), l1, ?_⟩
      tm_at "s"
      refine ⟨q, _, d2, _, _, rfl, g2, T.cl 15 (by decide), T.fld 15 (by decide) "late" (by decide), r1, ?_⟩
      tm_at "s"
      have kk := k _ (Ex.refl _)
      refine ⟨b1, p1, ?_⟩
      tm_at "s"
      refine iteB (fun z => ?_) (fun z => ?_)
      · tm_at "s"
        refine ⟨p, _, d1, _, _, rfl, g1, T.cl 15 (by decide), T.fld 15 (by decide) "rest" (by decide), l2, ?_⟩
        tm_at "s"
        refine ⟨q, _, d2, _, _, rfl, g2, T.cl 15 (by decide), T.fld 15 (by decide) "rest" (by decide), r2, ?_⟩
        tm_at "s"
        rw [z] at kk
        exact ⟨b2, p2, by simpa using kk⟩
      · tm_at "s"
        rw [z] at kk
        simpa using kk
    · tm_at "s"
      refine s_isiC ht hk ?_
      tm_at "s"
      exact k _ (Ex.refl _)
theorem ok_eq_Endless {f : Addr} {fd : FuncData} (F : Fun K "__eq__" "Endless.__eq__" s_Endless___eq__ f fd) (T : Txt K mg cs CP CD fb) : FnOk P w K mg base (L2.CX P w) 2 f fd ["self", "other"] (spEqC K (cs.getD 16 0) ["residue", "begin"]) := by
  refine funO F sc_Endless___eq__ (fun vs H Q E h => ?_) (fun cd A fr s H vs Q E hr h => ?_)
  · obtain ⟨p, y, fs, rfl, _⟩ := h; rfl
  · obtain ⟨p, y, fs, rfl, ⟨d1, g1⟩, hc⟩ := h
    refine ⟨_, (pss_one (ps_ret (pe_and (pe_callB (KX.callIsi (K := K)) (by rfl) T.b_isinstance (by decide +kernel) (pa_cons (pv 1) (pa_cons (C8.pe_gc (by rfl) T.g_Endless) pa_nil))) (pe_and (pe_cmpR (KX.pq (K := K) rfl hr.units) (KX.fld (K := K) rfl (pv 0) rfl) (KX.fld (K := K) rfl (pv 1) rfl) (nomark _)) (pe_one (pe_cmpR (KX.pq (K := K) rfl hr.units) (KX.fld (K := K) rfl (pv 0) rfl) (KX.fld (K := K) rfl (pv 1) rfl) (nomark _))))))), ?_⟩
    rcases hc with ⟨q, fs', xs, ys, bs, rfl, ⟨d2, g2⟩, nw1, nw2, m1, m2, ha, k⟩ | ⟨ty, ht, hk, k⟩
    · obtain ⟨x1, x2, y1, y2, b1, b2, rfl, l1, r1, p1, l2, r2, p2⟩ := inv2 m1 m2 ha
      tm_at "s"
      refine s_isiC (T.ty (j := 16) (by decide) g2) (T.kC (j := 16) (by decide)) ?_
      tm_at "s"
      refine ⟨p, _, d1, _, _, rfl, g1, T.cl 16 (by decide), T.fld 16 (by decide) "residue" (by decide), l1, ?_⟩
      tm_at "s"
      refine ⟨q, _, d2, _, _, rfl, g2, T.cl 16 (by decide), T.fld 16 (by decide) "residue" (by decide), r1, ?_⟩
      tm_at "s"
      have kk := k _ (Ex.refl _)
      refine ⟨b1, p1, ?_⟩
      tm_at "s"
      refine iteB (fun z => ?_) (fun z => ?_)
      · tm_at "s"
        refine ⟨p, _, d1, _, _, rfl, g1, T.cl 16 (by decide), T.fld 16 (by decide) "begin" (by decide), l2, ?_⟩
        tm_at "s"
        refine ⟨q, _, d2, _, _, rfl, g2, T.cl 16 (by decide), T.fld 16 (by decide) "begin" (by decide), r2, ?_⟩
        tm_at "s"
        rw [z] at kk
        exact ⟨b2, p2, by simpa using kk⟩
      · tm_at "s"
        rw [z] at kk
        simpa using kk
    · tm_at "s"
      refine s_isiC ht hk ?_
      tm_at "s"
      exact k _ (Ex.refl _)
theorem ok_eq_Within {f : Addr} {fd : FuncData} (F : Fun K "__eq__" "Within.__eq__" s_Within___eq__ f fd) (T : Txt K mg cs CP CD fb) : FnOk P w K mg base (L2.CX P w) 2 f fd ["self", "other"] (spEqC K (cs.getD 17 0) ["table"]) := by
  refine funO F sc_Within___eq__ (fun vs H Q E h => ?_) (fun cd A fr s H vs Q E hr h => ?_)
  · obtain ⟨p, y, fs, rfl, _⟩ := h; rfl
  · obtain ⟨p, y, fs, rfl, ⟨d1, g1⟩, hc⟩ := h
    refine ⟨_, (pss_one (ps_ret (pe_and (pe_callB (KX.callIsi (K := K)) (by rfl) T.b_isinstance (by decide +kernel) (pa_cons (pv 1) (pa_cons (C8.pe_gc (by rfl) T.g_Within) pa_nil))) (pe_one (pe_cmpR (KX.pq (K := K) rfl hr.units) (KX.fld (K := K) rfl (pv 0) rfl) (KX.fld (K := K) rfl (pv 1) rfl) (nomark _)))))), ?_⟩
    rcases hc with ⟨q, fs', xs, ys, bs, rfl, ⟨d2, g2⟩, nw1, nw2, m1, m2, ha, k⟩ | ⟨ty, ht, hk, k⟩
    · obtain ⟨x1, y1, b1, rfl, l1, r1, p1⟩ := inv1 m1 m2 ha
      tm_at "s"
      refine s_isiC (T.ty (j := 17) (by decide) g2) (T.kC (j := 17) (by decide)) ?_
      tm_at "s"
      refine ⟨p, _, d1, _, _, rfl, g1, T.cl 17 (by decide), T.fld 17 (by decide) "table" (by decide), l1, ?_⟩
      tm_at "s"
      refine ⟨q, _, d2, _, _, rfl, g2, T.cl 17 (by decide), T.fld 17 (by decide) "table" (by decide), r1, ?_⟩
      tm_at "s"
      have kk := k _ (Ex.refl _)
      rw [all1] at kk
      exact ⟨b1, p1, kk⟩
    · tm_at "s"
      refine s_isiC ht hk ?_
      tm_at "s"
      exact k _ (Ex.refl _)
theorem ok_eq_Beyond {f : Addr} {fd : FuncData} (F : Fun K "__eq__" "Beyond.__eq__" s_Beyond___eq__ f fd) (T : Txt K mg cs CP CD fb) : FnOk P w K mg base (L2.CX P w) 2 f fd ["self", "other"] (spEqC K (cs.getD 18 0) ["rest", "late"]) := by
  refine funO F sc_Beyond___eq__ (fun vs H Q E h => ?_) (fun cd A fr s H vs Q E hr h => ?_)
  · obtain ⟨p, y, fs, rfl, _⟩ := h; rfl
  · obtain ⟨p, y, fs, rfl, ⟨d1, g1⟩, hc⟩ := h
    refine ⟨_, (pss_one (ps_ret (pe_and (pe_callB (KX.callIsi (K := K)) (by rfl) T.b_isinstance (by decide +kernel) (pa_cons (pv 1) (pa_cons (C8.pe_gc (by rfl) T.g_Beyond) pa_nil))) (pe_and (pe_cmpR (KX.pq (K := K) rfl hr.units) (KX.fld (K := K) rfl (pv 0) rfl) (KX.fld (K := K) rfl (pv 1) rfl) (nomark _)) (pe_one (pe_cmpR (KX.pq (K := K) rfl hr.units) (KX.fld (K := K) rfl (pv 0) rfl) (KX.fld (K := K) rfl (pv 1) rfl) (nomark _))))))), ?_⟩
    rcases hc with ⟨q, fs', xs, ys, bs, rfl, ⟨d2, g2⟩, nw1, nw2, m1, m2, ha, k⟩ | ⟨ty, ht, hk, k⟩
    · obtain ⟨x1, x2, y1, y2, b1, b2, rfl, l1, r1, p1, l2, r2, p2⟩ := inv2 m1 m2 ha
      tm_at "s"
      refine s_isiC (T.ty (j := 18) (by decide) g2) (T.kC (j := 18) (by decide)) ?_
      tm_at "s"
      refine ⟨p, _, d1, _, _, rfl, g1, T.cl 18 (by decide), T.fld 18 (by decide) "rest" (by decide), l1, ?_⟩
      tm_at "s"
      refine ⟨q, _, d2, _, _, rfl, g2, T.cl 18 (by decide), T.fld 18 (by decide) "rest" (by decide), r1, ?_⟩
      tm_at "s"
      have kk := k _ (Ex.refl _)
      refine ⟨b1, p1, ?_⟩
      tm_at "s"
      refine iteB (fun z => ?_) (fun z => ?_)
      · tm_at "s"
        refine ⟨p, _, d1, _, _, rfl, g1, T.cl 18 (by decide), T.fld 18 (by decide) "late" (by decide), l2, ?_⟩
        tm_at "s"
        refine ⟨q, _, d2, _, _, rfl, g2, T.cl 18 (by decide), T.fld 18 (by decide) "late" (by decide), r2, ?_⟩
        tm_at "s"
        rw [z] at kk
        exact ⟨b2, p2, by simpa using kk⟩
      · tm_at "s"
        rw [z] at kk
        simpa using kk
    · tm_at "s"
      refine s_isiC ht hk ?_
      tm_at "s"
      exact k _ (Ex.refl _)
theorem ok_eq_Latest {f : Addr} {fd : FuncData} (F : Fun K "__eq__" "Latest.__eq__" s_Latest___eq__ f fd) (T : Txt K mg cs CP CD fb) : FnOk P w K mg base (L2.CX P w) 2 f fd ["self", "other"] (spEqC K (cs.getD 19 0) ["late", "at", "world"]) := by
  refine funO F sc_Latest___eq__ (fun vs H Q E h => ?_) (fun cd A fr s H vs Q E hr h => ?_)
  · obtain ⟨p, y, fs, rfl, _⟩ := h; rfl
  · obtain ⟨p, y, fs, rfl, ⟨d1, g1⟩, hc⟩ := h
    refine ⟨_, (pss_cons (ps_if (PW.pt (pw_or (pt_not (pt_val (pe_callB (KX.callIsi (K := K)) (by rfl) T.b_isinstance (by decide +kernel) (pa_cons (pv 1) (pa_cons (C8.pe_gc (by rfl) T.g_Latest) pa_nil))))) (pw_or1 (pt_cmpR (KX.nq (K := K) rfl hr.units) (KX.fld (K := K) rfl (pv 0) rfl) (KX.fld (K := K) rfl (pv 1) rfl) (nomark _))))) (pss_one (ps_ret pe_bl)) pss_nil)
      (pss_one (ps_ret (pe_and (pe_cmpR (KX.pq (K := K) rfl hr.units) (KX.fld (K := K) rfl (pv 0) rfl) (KX.fld (K := K) rfl (pv 1) rfl) (nomark _)) (pe_one (pe_cmpR (KX.pq (K := K) rfl hr.units) (KX.fld (K := K) rfl (pv 0) rfl) (KX.fld (K := K) rfl (pv 1) rfl) (nomark _))))))), ?_⟩
    rcases hc with ⟨q, fs', xs, ys, bs, rfl, ⟨d2, g2⟩, nw1, nw2, m1, m2, ha, k⟩ | ⟨ty, ht, hk, k⟩
    · obtain ⟨x1, x2, x3, y1, y2, y3, b1, b2, b3, rfl, l1, r1, p1, l2, r2, p2, l3, r3, p3⟩ := inv3 m1 m2 ha
      tm_at "s"
      refine s_isiC (T.ty (j := 19) (by decide) g2) (T.kC (j := 19) (by decide)) ?_
      tm_at "s"
      refine ⟨p, _, d1, _, _, rfl, g1, T.cl 19 (by decide), T.fld 19 (by decide) "late" (by decide), l1, ?_⟩
      tm_at "s"
      refine ⟨q, _, d2, _, _, rfl, g2, T.cl 19 (by decide), T.fld 19 (by decide) "late" (by decide), r1, ?_⟩
      tm_at "s"
      refine ⟨b1, p1, ?_⟩
      tm_at "s"
      refine iteB (fun z => ?_) (fun z => ?_)
      · tm_at "s"
        have kk := k _ (Ex.refl _)
        rw [show b1 = false by simpa using z] at kk
        simpa using kk
      have z1 : b1 = true := by simpa using z
      tm_at "s"
      refine ⟨p, _, d1, _, _, rfl, g1, T.cl 19 (by decide), T.fld 19 (by decide) "at" (by decide), l2, ?_⟩
      tm_at "s"
      refine ⟨q, _, d2, _, _, rfl, g2, T.cl 19 (by decide), T.fld 19 (by decide) "at" (by decide), r2, ?_⟩
      tm_at "s"
      have kk := k _ (Ex.refl _)
      rw [z1] at kk
      refine ⟨b2, p2, ?_⟩
      tm_at "s"
      refine iteB (fun z => ?_) (fun z => ?_)
      · tm_at "s"
        refine ⟨p, _, d1, _, _, rfl, g1, T.cl 19 (by decide), T.fld 19 (by decide) "world" (by decide), l3, ?_⟩
        tm_at "s"
        refine ⟨q, _, d2, _, _, rfl, g2, T.cl 19 (by decide), T.fld 19 (by decide) "world" (by decide), r3, ?_⟩
        tm_at "s"
        rw [z] at kk
        exact ⟨b3, p3, by simpa using kk⟩
      · tm_at "s"
        rw [z] at kk
        simpa using kk
    · tm_at "s"
      refine s_isiC ht hk ?_
      tm_at "s"
      exact k _ (Ex.refl _)
theorem ok_eq_Taking {f : Addr} {fd : FuncData} (F : Fun K "__eq__" "Taking.__eq__" s_Taking___eq__ f fd) (T : Txt K mg cs CP CD fb) : FnOk P w K mg base (L2.CX P w) 2 f fd ["self", "other"] (spEqC K (cs.getD 20 0) ["worker", "at", "begun", "ended"]) := by
  refine funO F sc_Taking___eq__ (fun vs H Q E h => ?_) (fun cd A fr s H vs Q E hr h => ?_)
  · obtain ⟨p, y, fs, rfl, _⟩ := h; rfl
  · obtain ⟨p, y, fs, rfl, ⟨d1, g1⟩, hc⟩ := h
    refine ⟨_, (pss_cons (ps_if (pt_not (pt_val (pe_callB (KX.callIsi (K := K)) (by rfl) T.b_isinstance (by decide +kernel) (pa_cons (pv 1) (pa_cons (C8.pe_gc (by rfl) T.g_Taking) pa_nil))))) (pss_one (ps_ret pe_bl)) pss_nil)
      (pss_cons (ps_set (i := 2) sc_Taking___eq__.nd rfl (Or.inl rfl) (pe_tup (pa_cons (KX.fld (K := K) rfl (pv 0) rfl) (pa_cons (KX.fld (K := K) rfl (pv 0) rfl) (pa_cons (KX.fld (K := K) rfl (pv 0) rfl) (pa_cons (KX.fld (K := K) rfl (pv 0) rfl) pa_nil))))))
      (pss_one (ps_ret (pe_cmpR (KX.tq (K := K) rfl (units66 hr)) (pv 2) (pe_tup (pa_cons (KX.fld (K := K) rfl (pv 1) rfl) (pa_cons (KX.fld (K := K) rfl (pv 1) rfl) (pa_cons (KX.fld (K := K) rfl (pv 1) rfl) (pa_cons (KX.fld (K := K) rfl (pv 1) rfl) pa_nil))))) (nomark _)))))), ?_⟩
    rcases hc with ⟨q, fs', xs, ys, bs, rfl, ⟨d2, g2⟩, nw1, nw2, m1, m2, ha, k⟩ | ⟨ty, ht, hk, k⟩
    · obtain ⟨x1, x2, x3, x4, y1, y2, y3, y4, b1, b2, b3, b4, rfl, l1, r1, p1, l2, r2, p2, l3, r3, p3, l4, r4, p4⟩ := inv4 m1 m2 ha
      tm_at "s"
      refine s_isiC (T.ty (j := 20) (by decide) g2) (T.kC (j := 20) (by decide)) ?_
      tm_at "s"
      refine ⟨p, _, d1, _, _, rfl, g1, T.cl 20 (by decide), T.fld 20 (by decide) "worker" (by decide), l1, ?_⟩
      tm_at "s"
      refine ⟨p, _, d1, _, _, rfl, g1, T.cl 20 (by decide), T.fld 20 (by decide) "at" (by decide), l2, ?_⟩
      tm_at "s"
      refine ⟨p, _, d1, _, _, rfl, g1, T.cl 20 (by decide), T.fld 20 (by decide) "begun" (by decide), l3, ?_⟩
      tm_at "s"
      refine ⟨p, _, d1, _, _, rfl, g1, T.cl 20 (by decide), T.fld 20 (by decide) "ended" (by decide), l4, ?_⟩
      tm_at "s"
      refine s_new (Nat.le_of_lt (small1000 (by simp))) fun t1 H1 ht1 e1 h1 => ?_
      tm_at "s"
      have g1 := e1 _ _ g1
      have g2 := e1 _ _ g2
      refine ⟨q, _, d2, _, _, rfl, g2, T.cl 20 (by decide), T.fld 20 (by decide) "worker" (by decide), r1, ?_⟩
      tm_at "s"
      refine ⟨q, _, d2, _, _, rfl, g2, T.cl 20 (by decide), T.fld 20 (by decide) "at" (by decide), r2, ?_⟩
      tm_at "s"
      refine ⟨q, _, d2, _, _, rfl, g2, T.cl 20 (by decide), T.fld 20 (by decide) "begun" (by decide), r3, ?_⟩
      tm_at "s"
      refine ⟨q, _, d2, _, _, rfl, g2, T.cl 20 (by decide), T.fld 20 (by decide) "ended" (by decide), r4, ?_⟩
      tm_at "s"
      refine s_new (Nat.le_of_lt (small1000 (by simp))) fun t2 H2 ht2 e2 h2 => ?_
      refine ⟨t1, t2, _, _, _, rfl, rfl, e2 _ _ h1, h2, (.cons (p1.ex (e1.trans e2)) (.cons (p2.ex (e1.trans e2)) (.cons (p3.ex (e1.trans e2)) (.cons (p4.ex (e1.trans e2)) .nil)))), ?_⟩
      exact k _ (e1.trans e2)
    · tm_at "s"
      refine s_isiC ht hk ?_
      tm_at "s"
      exact k _ (Ex.refl _)
theorem ok_eq_Fits {f : Addr} {fd : FuncData} (F : Fun K "__eq__" "Fits.__eq__" s_Fits___eq__ f fd) (T : Txt K mg cs CP CD fb) : FnOk P w K mg base (L2.CX P w) 2 f fd ["self", "other"] (spEqC K (cs.getD 21 0) ["world"]) := by
  refine funO F sc_Fits___eq__ (fun vs H Q E h => ?_) (fun cd A fr s H vs Q E hr h => ?_)
  · obtain ⟨p, y, fs, rfl, _⟩ := h; rfl
  · obtain ⟨p, y, fs, rfl, ⟨d1, g1⟩, hc⟩ := h
    refine ⟨_, (pss_one (ps_ret (pe_and (pe_callB (KX.callIsi (K := K)) (by rfl) T.b_isinstance (by decide +kernel) (pa_cons (pv 1) (pa_cons (C8.pe_gc (by rfl) T.g_Fits) pa_nil))) (pe_one (pe_cmpR (KX.pq (K := K) rfl hr.units) (KX.fld (K := K) rfl (pv 0) rfl) (KX.fld (K := K) rfl (pv 1) rfl) (nomark _)))))), ?_⟩
    rcases hc with ⟨q, fs', xs, ys, bs, rfl, ⟨d2, g2⟩, nw1, nw2, m1, m2, ha, k⟩ | ⟨ty, ht, hk, k⟩
    · obtain ⟨x1, y1, b1, rfl, l1, r1, p1⟩ := inv1 m1 m2 ha
      tm_at "s"
      refine s_isiC (T.ty (j := 21) (by decide) g2) (T.kC (j := 21) (by decide)) ?_
      tm_at "s"
      refine ⟨p, _, d1, _, _, rfl, g1, T.cl 21 (by decide), T.fld 21 (by decide) "world" (by decide), l1, ?_⟩
      tm_at "s"
      refine ⟨q, _, d2, _, _, rfl, g2, T.cl 21 (by decide), T.fld 21 (by decide) "world" (by decide), r1, ?_⟩
      tm_at "s"
      have kk := k _ (Ex.refl _)
      rw [all1] at kk
      exact ⟨b1, p1, kk⟩
    · tm_at "s"
      refine s_isiC ht hk ?_
      tm_at "s"
      exact k _ (Ex.refl _)
theorem ok_eq_Misfit {f : Addr} {fd : FuncData} (F : Fun K "__eq__" "Misfit.__eq__" s_Misfit___eq__ f fd) (T : Txt K mg cs CP CD fb) : FnOk P w K mg base (L2.CX P w) 2 f fd ["self", "other"] (spEqC K (cs.getD 22 0) ["at", "why"]) := by
  refine funO F sc_Misfit___eq__ (fun vs H Q E h => ?_) (fun cd A fr s H vs Q E hr h => ?_)
  · obtain ⟨p, y, fs, rfl, _⟩ := h; rfl
  · obtain ⟨p, y, fs, rfl, ⟨d1, g1⟩, hc⟩ := h
    refine ⟨_, (pss_one (ps_ret (pe_and (pe_callB (KX.callIsi (K := K)) (by rfl) T.b_isinstance (by decide +kernel) (pa_cons (pv 1) (pa_cons (C8.pe_gc (by rfl) T.g_Misfit) pa_nil))) (pe_one (pe_cmpR (KX.tq (K := K) rfl (units66 hr)) (pe_tup (pa_cons (KX.fld (K := K) rfl (pv 0) rfl) (pa_cons (KX.fld (K := K) rfl (pv 0) rfl) pa_nil))) (pe_tup (pa_cons (KX.fld (K := K) rfl (pv 1) rfl) (pa_cons (KX.fld (K := K) rfl (pv 1) rfl) pa_nil))) (nomark _)))))), ?_⟩
    rcases hc with ⟨q, fs', xs, ys, bs, rfl, ⟨d2, g2⟩, nw1, nw2, m1, m2, ha, k⟩ | ⟨ty, ht, hk, k⟩
    · obtain ⟨x1, x2, y1, y2, b1, b2, rfl, l1, r1, p1, l2, r2, p2⟩ := inv2 m1 m2 ha
      tm_at "s"
      refine s_isiC (T.ty (j := 22) (by decide) g2) (T.kC (j := 22) (by decide)) ?_
      tm_at "s"
      refine ⟨p, _, d1, _, _, rfl, g1, T.cl 22 (by decide), T.fld 22 (by decide) "at" (by decide), l1, ?_⟩
      tm_at "s"
      refine ⟨p, _, d1, _, _, rfl, g1, T.cl 22 (by decide), T.fld 22 (by decide) "why" (by decide), l2, ?_⟩
      tm_at "s"
      refine s_new (Nat.le_of_lt (small1000 (by simp))) fun t1 H1 ht1 e1 h1 => ?_
      tm_at "s"
      have g1 := e1 _ _ g1
      have g2 := e1 _ _ g2
      refine ⟨q, _, d2, _, _, rfl, g2, T.cl 22 (by decide), T.fld 22 (by decide) "at" (by decide), r1, ?_⟩
      tm_at "s"
      refine ⟨q, _, d2, _, _, rfl, g2, T.cl 22 (by decide), T.fld 22 (by decide) "why" (by decide), r2, ?_⟩
      tm_at "s"
      refine s_new (Nat.le_of_lt (small1000 (by simp))) fun t2 H2 ht2 e2 h2 => ?_
      refine ⟨t1, t2, _, _, _, rfl, rfl, e2 _ _ h1, h2, (.cons (p1.ex (e1.trans e2)) (.cons (p2.ex (e1.trans e2)) .nil)), ?_⟩
      exact k _ (e1.trans e2)
    · tm_at "s"
      refine s_isiC ht hk ?_
      tm_at "s"
      exact k _ (Ex.refl _)
theorem ok_eq_Ring {f : Addr} {fd : FuncData} (F : Fun K "__eq__" "Ring.__eq__" s_Ring___eq__ f fd) (T : Txt K mg cs CP CD fb) : FnOk P w K mg base (L2.CX P w) 2 f fd ["self", "other"] (spEqC K (cs.getD 23 0) ["workers"]) := by
  refine funO F sc_Ring___eq__ (fun vs H Q E h => ?_) (fun cd A fr s H vs Q E hr h => ?_)
  · obtain ⟨p, y, fs, rfl, _⟩ := h; rfl
  · obtain ⟨p, y, fs, rfl, ⟨d1, g1⟩, hc⟩ := h
    refine ⟨_, (pss_one (ps_ret (pe_and (pe_callB (KX.callIsi (K := K)) (by rfl) T.b_isinstance (by decide +kernel) (pa_cons (pv 1) (pa_cons (C8.pe_gc (by rfl) T.g_Ring) pa_nil))) (pe_one (pe_cmpR (KX.pq (K := K) rfl hr.units) (KX.fld (K := K) rfl (pv 0) rfl) (KX.fld (K := K) rfl (pv 1) rfl) (nomark _)))))), ?_⟩
    rcases hc with ⟨q, fs', xs, ys, bs, rfl, ⟨d2, g2⟩, nw1, nw2, m1, m2, ha, k⟩ | ⟨ty, ht, hk, k⟩
    · obtain ⟨x1, y1, b1, rfl, l1, r1, p1⟩ := inv1 m1 m2 ha
      tm_at "s"
      refine s_isiC (T.ty (j := 23) (by decide) g2) (T.kC (j := 23) (by decide)) ?_
      tm_at "s"
      refine ⟨p, _, d1, _, _, rfl, g1, T.cl 23 (by decide), T.fld 23 (by decide) "workers" (by decide), l1, ?_⟩
      tm_at "s"
      refine ⟨q, _, d2, _, _, rfl, g2, T.cl 23 (by decide), T.fld 23 (by decide) "workers" (by decide), r1, ?_⟩
      tm_at "s"
      have kk := k _ (Ex.refl _)
      rw [all1] at kk
      exact ⟨b1, p1, kk⟩
    · tm_at "s"
      refine s_isiC ht hk ?_
      tm_at "s"
      exact k _ (Ex.refl _)
theorem ok_eq_Came {f : Addr} {fd : FuncData} (F : Fun K "__eq__" "Came.__eq__" s_Came___eq__ f fd) (T : Txt K mg cs CP CD fb) : FnOk P w K mg base (L2.CX P w) 2 f fd ["self", "other"] (spEqC K (cs.getD 24 0) ["least", "most"]) := by
  refine funO F sc_Came___eq__ (fun vs H Q E h => ?_) (fun cd A fr s H vs Q E hr h => ?_)
  · obtain ⟨p, y, fs, rfl, _⟩ := h; rfl
  · obtain ⟨p, y, fs, rfl, ⟨d1, g1⟩, hc⟩ := h
    refine ⟨_, (pss_one (ps_ret (pe_and (pe_callB (KX.callIsi (K := K)) (by rfl) T.b_isinstance (by decide +kernel) (pa_cons (pv 1) (pa_cons (C8.pe_gc (by rfl) T.g_Came) pa_nil))) (pe_one (pe_cmpR (KX.tq (K := K) rfl (units66 hr)) (pe_tup (pa_cons (KX.fld (K := K) rfl (pv 0) rfl) (pa_cons (KX.fld (K := K) rfl (pv 0) rfl) pa_nil))) (pe_tup (pa_cons (KX.fld (K := K) rfl (pv 1) rfl) (pa_cons (KX.fld (K := K) rfl (pv 1) rfl) pa_nil))) (nomark _)))))), ?_⟩
    rcases hc with ⟨q, fs', xs, ys, bs, rfl, ⟨d2, g2⟩, nw1, nw2, m1, m2, ha, k⟩ | ⟨ty, ht, hk, k⟩
    · obtain ⟨x1, x2, y1, y2, b1, b2, rfl, l1, r1, p1, l2, r2, p2⟩ := inv2 m1 m2 ha
      tm_at "s"
      refine s_isiC (T.ty (j := 24) (by decide) g2) (T.kC (j := 24) (by decide)) ?_
      tm_at "s"
      refine ⟨p, _, d1, _, _, rfl, g1, T.cl 24 (by decide), T.fld 24 (by decide) "least" (by decide), l1, ?_⟩
      tm_at "s"
      refine ⟨p, _, d1, _, _, rfl, g1, T.cl 24 (by decide), T.fld 24 (by decide) "most" (by decide), l2, ?_⟩
      tm_at "s"
      refine s_new (Nat.le_of_lt (small1000 (by simp))) fun t1 H1 ht1 e1 h1 => ?_
      tm_at "s"
      have g1 := e1 _ _ g1
      have g2 := e1 _ _ g2
      refine ⟨q, _, d2, _, _, rfl, g2, T.cl 24 (by decide), T.fld 24 (by decide) "least" (by decide), r1, ?_⟩
      tm_at "s"
      refine ⟨q, _, d2, _, _, rfl, g2, T.cl 24 (by decide), T.fld 24 (by decide) "most" (by decide), r2, ?_⟩
      tm_at "s"
      refine s_new (Nat.le_of_lt (small1000 (by simp))) fun t2 H2 ht2 e2 h2 => ?_
      refine ⟨t1, t2, _, _, _, rfl, rfl, e2 _ _ h1, h2, (.cons (p1.ex (e1.trans e2)) (.cons (p2.ex (e1.trans e2)) .nil)), ?_⟩
      exact k _ (e1.trans e2)
    · tm_at "s"
      refine s_isiC ht hk ?_
      tm_at "s"
      exact k _ (Ex.refl _)
theorem ok_eq_BestOrder {f : Addr} {fd : FuncData} (F : Fun K "__eq__" "BestOrder.__eq__" s_BestOrder___eq__ f fd) (T : Txt K mg cs CP CD fb) : FnOk P w K mg base (L2.CX P w) 2 f fd ["self", "other"] (spEqC K (cs.getD 25 0) ["names", "late", "last"]) := by
  refine funO F sc_BestOrder___eq__ (fun vs H Q E h => ?_) (fun cd A fr s H vs Q E hr h => ?_)
  · obtain ⟨p, y, fs, rfl, _⟩ := h; rfl
  · obtain ⟨p, y, fs, rfl, ⟨d1, g1⟩, hc⟩ := h
    refine ⟨_, (pss_cons (ps_if (PW.pt (pw_or (pt_not (pt_val (pe_callB (KX.callIsi (K := K)) (by rfl) T.b_isinstance (by decide +kernel) (pa_cons (pv 1) (pa_cons (C8.pe_gc (by rfl) T.g_BestOrder) pa_nil))))) (pw_or1 (pt_cmpR (KX.nq (K := K) rfl hr.units) (KX.fld (K := K) rfl (pv 0) rfl) (KX.fld (K := K) rfl (pv 1) rfl) (nomark _))))) (pss_one (ps_ret pe_bl)) pss_nil)
      (pss_one (ps_ret (pe_cmpR (KX.tq (K := K) rfl (units66 hr)) (pe_tup (pa_cons (KX.fld (K := K) rfl (pv 0) rfl) (pa_cons (KX.fld (K := K) rfl (pv 0) rfl) pa_nil))) (pe_tup (pa_cons (KX.fld (K := K) rfl (pv 1) rfl) (pa_cons (KX.fld (K := K) rfl (pv 1) rfl) pa_nil))) (nomark _))))), ?_⟩
    rcases hc with ⟨q, fs', xs, ys, bs, rfl, ⟨d2, g2⟩, nw1, nw2, m1, m2, ha, k⟩ | ⟨ty, ht, hk, k⟩
    · obtain ⟨x1, x2, x3, y1, y2, y3, b1, b2, b3, rfl, l1, r1, p1, l2, r2, p2, l3, r3, p3⟩ := inv3 m1 m2 ha
      tm_at "s"
      refine s_isiC (T.ty (j := 25) (by decide) g2) (T.kC (j := 25) (by decide)) ?_
      tm_at "s"
      refine ⟨p, _, d1, _, _, rfl, g1, T.cl 25 (by decide), T.fld 25 (by decide) "names" (by decide), l1, ?_⟩
      tm_at "s"
      refine ⟨q, _, d2, _, _, rfl, g2, T.cl 25 (by decide), T.fld 25 (by decide) "names" (by decide), r1, ?_⟩
      tm_at "s"
      refine ⟨b1, p1, ?_⟩
      tm_at "s"
      refine iteB (fun z => ?_) (fun z => ?_)
      · tm_at "s"
        have kk := k _ (Ex.refl _)
        rw [show b1 = false by simpa using z] at kk
        simpa using kk
      have z1 : b1 = true := by simpa using z
      tm_at "s"
      refine ⟨p, _, d1, _, _, rfl, g1, T.cl 25 (by decide), T.fld 25 (by decide) "late" (by decide), l2, ?_⟩
      tm_at "s"
      refine ⟨p, _, d1, _, _, rfl, g1, T.cl 25 (by decide), T.fld 25 (by decide) "last" (by decide), l3, ?_⟩
      tm_at "s"
      refine s_new (Nat.le_of_lt (small1000 (by simp))) fun t1 H1 ht1 e1 h1 => ?_
      tm_at "s"
      have g1 := e1 _ _ g1
      have g2 := e1 _ _ g2
      refine ⟨q, _, d2, _, _, rfl, g2, T.cl 25 (by decide), T.fld 25 (by decide) "late" (by decide), r2, ?_⟩
      tm_at "s"
      refine ⟨q, _, d2, _, _, rfl, g2, T.cl 25 (by decide), T.fld 25 (by decide) "last" (by decide), r3, ?_⟩
      tm_at "s"
      refine s_new (Nat.le_of_lt (small1000 (by simp))) fun t2 H2 ht2 e2 h2 => ?_
      refine ⟨t1, t2, _, _, _, rfl, rfl, e2 _ _ h1, h2, (.cons (p2.ex (e1.trans e2)) (.cons (p3.ex (e1.trans e2)) .nil)), ?_⟩
      have kk := k _ (e1.trans e2)
      rw [z1] at kk
      exact kk
    · tm_at "s"
      refine s_isiC ht hk ?_
      tm_at "s"
      exact k _ (Ex.refl _)
theorem ok_eq_PoolTaking {f : Addr} {fd : FuncData} (F : Fun K "__eq__" "PoolTaking.__eq__" s_PoolTaking___eq__ f fd) (T : Txt K mg cs CP CD fb) (c_own_row : MeK P w K mg base (cs.getD 26 0) "own_row" 1 (spOwnRow (cs.getD 26 0))) : FnOk P w K mg base (L2.CX P w) 2 f fd ["self", "other"] (spEqC K (cs.getD 26 0) ["loop", "worker", "many", "begun", "ended"]) := by
  refine funO F sc_PoolTaking___eq__ (fun vs H Q E h => ?_) (fun cd A fr s H vs Q E hr h => ?_)
  · obtain ⟨p, y, fs, rfl, _⟩ := h; rfl
  · obtain ⟨p, y, fs, rfl, ⟨d1, g1⟩, hc⟩ := h
    refine ⟨_, (pss_one (ps_ret (pe_and (pe_callB (KX.callIsi (K := K)) (by rfl) T.b_isinstance (by decide +kernel) (pa_cons (pv 1) (pa_cons (C8.pe_gc (by rfl) T.g_PoolTaking) pa_nil))) (pe_one (pe_cmpR (KX.tq (K := K) rfl (units66 hr)) (pe_m0 c_own_row (T.cl 26 (by decide)) hr passF (pv 0)) (pe_m0 c_own_row (T.cl 26 (by decide)) hr passF (pv 1)) (nomark _)))))), ?_⟩
    rcases hc with ⟨q, fs', xs, ys, bs, rfl, ⟨d2, g2⟩, nw1, nw2, m1, m2, ha, k⟩ | ⟨ty, ht, hk, k⟩
    · obtain ⟨x1, x2, x3, x4, x5, y1, y2, y3, y4, y5, b1, b2, b3, b4, b5, rfl, l1, r1, p1, l2, r2, p2, l3, r3, p3, l4, r4, p4, l5, r5, p5⟩ := inv5 m1 m2 ha
      tm_at "s"
      refine s_isiC (T.ty (j := 26) (by decide) g2) (T.kC (j := 26) (by decide)) ?_
      tm_at "s"
      refine ⟨.ref p, rfl, p, d1, fs, rfl, g1, nw1, p, fs, x1, x2, x3, x4, x5, rfl, ⟨d1, g1⟩, l1, l2, l3, l4, l5, fun t1 H1 e1 h1 => ?_⟩
      refine ⟨.ref q, rfl, q, d2, fs', rfl, e1 _ _ g2, nw2, q, fs', y1, y2, y3, y4, y5, rfl, ⟨d2, e1 _ _ g2⟩, r1, r2, r3, r4, r5, fun t2 H2 e2 h2 => ?_⟩
      refine ⟨t1, t2, _, _, _, rfl, rfl, e2 _ _ h1, h2, (.cons (p1.ex (e1.trans e2)) (.cons (p2.ex (e1.trans e2)) (.cons (p3.ex (e1.trans e2)) (.cons (p4.ex (e1.trans e2)) (.cons (p5.ex (e1.trans e2)) .nil))))), ?_⟩
      exact k _ (e1.trans e2)
    · tm_at "s"
      refine s_isiC ht hk ?_
      tm_at "s"
      exact k _ (Ex.refl _)
end
end K03
end
section
local macro_rules | `(tactic| tm_at "s1") => `(tactic| first
  | with_reducible first
    | refine L3.s_seq ?_ | refine L3.s_asg ?_ | refine L3.s_op ?_ | refine L3.s_c ?_ | refine L3.s_cb ?_ | refine L3.s_cons ?_ | refine L3.s_nil ?_ | refine L3.s_test ?_ | refine L3.s_bl ?_
    | refine L3.s_I0 ?_ | refine L3.s_and ?_ | refine L3.s_or ?_ | refine L3.s_not ?_ | refine L3.s_if ?_ | refine L3.s_next ?_ | refine L3.s_ret ?_ | refine L3.s_retN ?_ | refine L3.s_asgS ?_ | refine L3.s_drop ?_
    | refine L3.s_un ?_ | refine L3.s_U ?_ | refine L3.s_int ?_ | refine L3.s_intB ?_ | refine L3.s_abs ?_ | refine L3.s_andV ?_ | refine L3.s_orV ?_ | refine L3.s_notV ?_ | refine L3.s_ifE ?_ | refine L3.s_call ?_ | refine L3.s_lst ?_ | refine L3.s_tup ?_ | refine L3.s_tB ?_
    | refine L3.s_addI ?_ | refine L3.s_inS ?_ | refine L3.s_ninS ?_ | refine L3.s_slice ?_ | refine L3.s_part ?_ | refine L3.s_partI ?_ | refine L3.s_nopart ?_ | refine L3.s_cI ?_ | refine L3.s_cB ?_ | refine L3.s_chain ?_ | refine L3.s_bm ?_ | refine L3.s_lcS ?_ | refine L3.s_lcR ?_ | refine L3.s_strE ?_
    | refine L2.iteT ?_ | refine L2.iteF ?_ | refine L3.iteNF ?_ | refine L3.iteNT ?_
    | refine L3.s_eqI ?_ | refine L3.s_neI ?_ | refine L3.s_eqS ?_ | refine L3.s_neS ?_
    | refine L3.s_pair ?_ | refine L3.s_pair2 ?_ | refine L3.s_fld ?_ | refine L3.s_make ?_ | refine L3.s_m1 ?_ | refine L3.s_isstr ?_
    | refine L3.s_xfV ?_ | refine L3.s_lstN ?_ | refine L3.s_callF ?_ | refine L3.s_lcL ?_ | refine L3.s_par3 ?_ | refine L3.s_trip ?_ | refine L3.s_asgT' ?_ | refine L3.s_gC ?_ | refine L3.s_gN ?_ | refine L3.s_fldG ?_ | refine L3.s_raise1 ?_
    | refine L3.s_isN ?_ | refine L3.s_isB ?_ | refine L3.s_nisN ?_ | refine L3.s_nisB ?_
  | ((with_reducible refine' L3.s_var ?e ?_); (case e => rfl))
  | ((with_reducible refine' L3.s_aug ?e ?_); (case e => rfl))
  | ((with_reducible refine' L3.s_pow ?c ?_); (case c => exact ⟨by decide, by decide, by decide⟩)))
local macro_rules | `(tactic| tm_at "s") => `(tactic| repeat tm_at "s1")
namespace K03
open PySem PySem.Spec PyProof.Rows L2 L3 LamX
abbrev s__law_made : Stmt := topS 44
theorem sc__law_made : FnScope ["_law_first", "_law_second", "_law_third"] ["_law_first", "_law_second", "_law_third"] (defScope s__law_made) := ⟨rfl, rfl, rfl, by decide +kernel, rfl, by decide +kernel, by decide +kernel⟩
section
variable {P : Program} {w : World} {K : PySem.W.Frag} {mg : Str → Option Value} {base : Heap} {cs : List Addr} {CP CD fb : Addr}
def rowT (v1 v2 v3 : V) : List RowD := [⟨0, flF ["chunks"] [v1], ["chunks"], [v1], .bl true⟩,
  ⟨1, flF ["rests"] [v1], ["rests"], [v1], .bl false⟩,
  ⟨2, flF ["total", "chunks"] [v1, v2], ["total", "chunks"], [v1, v2], .bl true⟩,
  ⟨3, flF ["limit", "chunks", "below"] [v1, v2, v3], ["limit", "chunks", "below"], [v1, v2, v3], .bl true⟩,
  ⟨3, flF ["limit", "chunks", "below"] [v3, v2, v1], ["limit", "below"], [v3, v1], .bl true⟩,
  ⟨19, flF ["late", "at", "world"] [v1, v2, v3], ["late", "at", "world"], [v1, v2, v3], .bl true⟩,
  ⟨15, flF ["late", "rest"] [v2, v1], ["late", "rest"], [v2, v1], .bl true⟩,
  ⟨16, flF ["residue", "begin"] [v1, v2], ["residue", "begin"], [v1, v2], .bl false⟩,
  ⟨17, flF ["table"] [v1], ["table"], [v1], .bl true⟩,
  ⟨18, flF ["rest", "late"] [v1, v2], ["rest", "late"], [v1, v2], .bl false⟩,
  ⟨6, flF ["begins"] [v1], ["begins"], [v1], .bl true⟩,
  ⟨8, flF ["begins"] [v1], ["begins"], [v1], .bl true⟩,
  ⟨10, flF ["first", "last"] [v1, v2], ["first", "last"], [v1, v2], .bl true⟩,
  ⟨12, flF ["never", "steady"] [v2, v1], ["never", "steady"], [v2, v1], .bl true⟩,
  ⟨7, flF ["rest"] [v1], ["rest"], [v1], .bl false⟩,
  ⟨9, flF ["rest"] [v1], ["rest"], [v1], .bl false⟩,
  ⟨11, flF ["rest"] [v1], ["rest"], [v1], .bl false⟩,
  ⟨13, flF ["total", "counts"] [v1, v2], ["total", "counts"], [v1, v2], .bl false⟩,
  ⟨14, flF ["upto"] [v1], ["upto"], [v1], .bl false⟩,
  ⟨4, flF ["late", "rest", "spot"] [v1, v2, .int 3], ["late", "rest", "spot"], [v1, v2, .int 3], .bl true⟩,
  ⟨5, flF ["spot", "rise"] [v1, v2], ["spot", "rise"], [v1, v2], .bl false⟩,
  ⟨25, flF ["names", "late", "last"] [v1, v2, .int 3], ["names", "late", "last"], [v1, v2, .int 3], .bl true⟩,
  ⟨21, flF ["world"] [v1], ["world"], [v1], .bl true⟩,
  ⟨22, flF ["at", "why"] [v1, v2], ["at", "why"], [v1, v2], .bl false⟩,
  ⟨23, flF ["workers"] [v1], ["workers"], [v1], .bl false⟩,
  ⟨24, flF ["least", "most"] [v1, v2], ["least", "most"], [v1, v2], .bl true⟩,
  ⟨20, flF ["worker", "at", "begun", "ended"] [v1, v2, .int 3, .int 9], ["worker", "at", "begun"], [v1, v2, .int 3], .bl true⟩,
  ⟨20, flF ["worker", "at", "begun", "ended"] [.int 1, .int 3, v2, v1], ["ended", "begun"], [v1, v2], .int 1⟩,
  ⟨26, flF ["loop", "worker", "many", "begun", "ended"] [v1, v2, .int 3, .int 8, .int 9], ["loop", "worker", "many"], [v1, v2, .int 3], .int 1⟩,
  ⟨26, flF ["loop", "worker", "many", "begun", "ended"] [.int 1, .int 2, .int 3, v2, v1], ["begun", "ended"], [v2, v1], .bl true⟩]
abbrev Lm (P : Program) (w : World) (K : PySem.W.Frag) (mg : Str → Option Value) (base : Heap) : Hp → Addr → Sp → Prop := LamAt P w K mg base 1
theorem hLm : ∀ H H' f sp, Lm P w K mg base H f sp → ExtN H H' → Lm P w K mg base H' f sp := fun _ _ _ _ h e => LamAt.exN h e
abbrev lamQ1 : Str := (("_law_made" : Str) ++ ".<locals>.") ++ "<lambda>"
def spMade (P : Program) (w : World) (K : PySem.W.Frag) (mg : Str → Option Value) (base : Heap) (cs : List Addr) (Tt : List (Addr × Str)) : Sp := fun vs H Q _ => ∃ v1 v2 v3, vs = [v1, v2, v3] ∧ Tabs Tt H ∧ ∀ l H' xs, ExtN H H' → Tabs Tt H' → H' l = some (.lst xs) → Paired (RowAt (Lm P w K mg base) K cs H') xs (rowT v1 v2 v3) → Q (.ref l) H'
theorem ok_made {f c Pt : Addr} {fd : FuncData} (F : FunC K "_law_made" "_law_made" s__law_made c f fd) (TB : TabB base mg c Pt) {Tt : List (Addr × Str)} (hmT : (Pt, lamQ1) ∈ Tt) (huT : ∀ p ∈ Tt, p.1 = Pt → p.2 = lamQ1) (T : Txt K mg cs CP CD fb) (m_Fewest_1 : McO P w K mg base (L2.CX P w) 1 "Fewest" (cs.getD 0 0) ["self", "chunks"] (spInit (cs.getD 0 0) ["chunks"]) []) (m_NoList_k : McN P w K mg base (L2.CX P w) 1 "NoList" (cs.getD 1 0) 0 ["self", "rests"] (spInit (cs.getD 1 0) ["rests"]) ["rests"] (permG [0])) (m_Greatest_2 : McO P w K mg base (L2.CX P w) 1 "Greatest" (cs.getD 2 0) ["self", "total", "chunks"] (spInit (cs.getD 2 0) ["total", "chunks"]) []) (m_Least_3 : McO P w K mg base (L2.CX P w) 1 "Least" (cs.getD 3 0) ["self", "limit", "chunks", "below"] (spInit (cs.getD 3 0) ["limit", "chunks", "below"]) []) (m_Least_k : McN P w K mg base (L2.CX P w) 1 "Least" (cs.getD 3 0) 0 ["self", "limit", "chunks", "below"] (spInit (cs.getD 3 0) ["limit", "chunks", "below"]) ["below", "chunks", "limit"] (permG [2, 1, 0])) (m_Latest_3 : McO P w K mg base (L2.CX P w) 1 "Latest" (cs.getD 19 0) ["self", "late", "at", "world"] (spInit (cs.getD 19 0) ["late", "at", "world"]) []) (m_Bound_k : McN P w K mg base (L2.CX P w) 1 "Bound" (cs.getD 15 0) 0 ["self", "late", "rest"] (spInit (cs.getD 15 0) ["late", "rest"]) ["rest", "late"] (permG [1, 0])) (m_Endless_2 : McO P w K mg base (L2.CX P w) 1 "Endless" (cs.getD 16 0) ["self", "residue", "begin"] (spInit (cs.getD 16 0) ["residue", "begin"]) []) (m_Within_k : McN P w K mg base (L2.CX P w) 1 "Within" (cs.getD 17 0) 0 ["self", "table"] (spInit (cs.getD 17 0) ["table"]) ["table"] (permG [0])) (m_Beyond_2 : McO P w K mg base (L2.CX P w) 1 "Beyond" (cs.getD 18 0) ["self", "rest", "late"] (spInit (cs.getD 18 0) ["rest", "late"]) []) (m_NeverLess_k : McN P w K mg base (L2.CX P w) 1 "NeverLess" (cs.getD 6 0) 0 ["self", "begins"] (spInit (cs.getD 6 0) ["begins"]) ["begins"] (permG [0])) (m_Steady_1 : McO P w K mg base (L2.CX P w) 1 "Steady" (cs.getD 8 0) ["self", "begins"] (spInit (cs.getD 8 0) ["begins"]) []) (m_Same_2 : McO P w K mg base (L2.CX P w) 1 "Same" (cs.getD 10 0) ["self", "first", "last"] (spInit (cs.getD 10 0) ["first", "last"]) []) (m_Surely_k : McN P w K mg base (L2.CX P w) 1 "Surely" (cs.getD 12 0) 0 ["self", "never", "steady"] (spInit (cs.getD 12 0) ["never", "steady"]) ["steady", "never"] (permG [1, 0])) (m_Less_k : McN P w K mg base (L2.CX P w) 1 "Less" (cs.getD 7 0) 0 ["self", "rest"] (spInit (cs.getD 7 0) ["rest"]) ["rest"] (permG [0])) (m_Jump_1 : McO P w K mg base (L2.CX P w) 1 "Jump" (cs.getD 9 0) ["self", "rest"] (spInit (cs.getD 9 0) ["rest"]) []) (m_Other_1 : McO P w K mg base (L2.CX P w) 1 "Other" (cs.getD 11 0) ["self", "rest"] (spInit (cs.getD 11 0) ["rest"]) []) (m_Counter_2 : McO P w K mg base (L2.CX P w) 1 "Counter" (cs.getD 13 0) ["self", "total", "counts"] (spInit (cs.getD 13 0) ["total", "counts"]) []) (m_Undecided_k : McN P w K mg base (L2.CX P w) 1 "Undecided" (cs.getD 14 0) 0 ["self", "upto"] (spInit (cs.getD 14 0) ["upto"]) ["upto"] (permG [0])) (m_BatchBound_3 : McO P w K mg base (L2.CX P w) 1 "BatchBound" (cs.getD 4 0) ["self", "late", "rest", "spot"] (spInit (cs.getD 4 0) ["late", "rest", "spot"]) []) (m_BatchEndless_k : McN P w K mg base (L2.CX P w) 1 "BatchEndless" (cs.getD 5 0) 0 ["self", "spot", "rise"] (spInit (cs.getD 5 0) ["spot", "rise"]) ["spot", "rise"] (permG [0, 1])) (m_BestOrder_3 : McO P w K mg base (L2.CX P w) 1 "BestOrder" (cs.getD 25 0) ["self", "names", "late", "last"] (spInit (cs.getD 25 0) ["names", "late", "last"]) []) (m_Fits_k : McN P w K mg base (L2.CX P w) 1 "Fits" (cs.getD 21 0) 0 ["self", "world"] (spInit (cs.getD 21 0) ["world"]) ["world"] (permG [0])) (m_Misfit_2 : McO P w K mg base (L2.CX P w) 1 "Misfit" (cs.getD 22 0) ["self", "at", "why"] (spInit (cs.getD 22 0) ["at", "why"]) []) (m_Ring_k : McN P w K mg base (L2.CX P w) 1 "Ring" (cs.getD 23 0) 0 ["self", "workers"] (spInit (cs.getD 23 0) ["workers"]) ["workers"] (permG [0])) (m_Came_2 : McO P w K mg base (L2.CX P w) 1 "Came" (cs.getD 24 0) ["self", "least", "most"] (spInit (cs.getD 24 0) ["least", "most"]) []) (m_Taking_4 : McO P w K mg base (L2.CX P w) 1 "Taking" (cs.getD 20 0) ["self", "worker", "at", "begun", "ended"] (spInit (cs.getD 20 0) ["worker", "at", "begun", "ended"]) []) (m_Taking_k : McN P w K mg base (L2.CX P w) 1 "Taking" (cs.getD 20 0) 0 ["self", "worker", "at", "begun", "ended"] (spInit (cs.getD 20 0) ["worker", "at", "begun", "ended"]) ["ended", "begun", "at", "worker"] (permG [3, 2, 1, 0])) (m_PoolTaking_5 : McO P w K mg base (L2.CX P w) 1 "PoolTaking" (cs.getD 26 0) ["self", "loop", "worker", "many", "begun", "ended"] (spInit (cs.getD 26 0) ["loop", "worker", "many", "begun", "ended"]) []) (m_PoolTaking_k : McN P w K mg base (L2.CX P w) 1 "PoolTaking" (cs.getD 26 0) 3 ["self", "loop", "worker", "many", "begun", "ended"] (spInit (cs.getD 26 0) ["loop", "worker", "many", "begun", "ended"]) ["ended", "begun"] (permG [0, 1, 2, 4, 3])) :
    FnG P w K mg base CX0 4 f fd ["_law_first", "_law_second", "_law_third"] (spMade P w K mg base cs Tt) := by
  refine funGC F sc__law_made (fun vs H Q E h => ?_) (fun A fr s H vs Q E hr hg h => ?_)
  · obtain ⟨v1, v2, v3, rfl, _⟩ := h; rfl
  · obtain ⟨v1, v2, v3, rfl, ht, k⟩ := h
    refine ⟨_, (pss_one (ps_ret (pe_lstN (pa_cons (pe_tup (pa_cons (pe_mko m_Fewest_1 hr passF (pa_cons (pv 0) pa_nil)) (pa_cons (pe_lamF TB rfl hmT huT rfl (by decide +kernel)) (pa_cons (pe_lstN (pa_cons (pv 0) pa_nil)) (pa_cons pe_bl pa_nil))))) (pa_cons (pe_tup (pa_cons (pe_mkN0 m_NoList_k hr passF (pk_cons (pv 0) pk_nil)) (pa_cons (pe_lamF TB rfl hmT huT rfl (by decide +kernel)) (pa_cons (pe_lstN (pa_cons (pv 0) pa_nil)) (pa_cons pe_bl pa_nil))))) (pa_cons (pe_tup (pa_cons (pe_mko m_Greatest_2 hr passF (pa_cons (pv 0) (pa_cons (pv 1) pa_nil))) (pa_cons (pe_lamF TB rfl hmT huT rfl (by decide +kernel)) (pa_cons (pe_lstN (pa_cons (pv 0) (pa_cons (pv 1) pa_nil))) (pa_cons pe_bl pa_nil))))) (pa_cons (pe_tup (pa_cons (pe_mko m_Least_3 hr passF (pa_cons (pv 0) (pa_cons (pv 1) (pa_cons (pv 2) pa_nil)))) (pa_cons (pe_lamF TB rfl hmT huT rfl (by decide +kernel)) (pa_cons (pe_lstN (pa_cons (pv 0) (pa_cons (pv 1) (pa_cons (pv 2) pa_nil)))) (pa_cons pe_bl pa_nil))))) (pa_cons (pe_tup (pa_cons (pe_mkN0 m_Least_k hr passF (pk_cons (pv 0) (pk_cons (pv 1) (pk_cons (pv 2) pk_nil)))) (pa_cons (pe_lamF TB rfl hmT huT rfl (by decide +kernel)) (pa_cons (pe_lstN (pa_cons (pv 2) (pa_cons (pv 0) pa_nil))) (pa_cons pe_bl pa_nil))))) (pa_cons (pe_tup (pa_cons (pe_mko m_Latest_3 hr passF (pa_cons (pv 0) (pa_cons (pv 1) (pa_cons (pv 2) pa_nil)))) (pa_cons (pe_lamF TB rfl hmT huT rfl (by decide +kernel)) (pa_cons (pe_lstN (pa_cons (pv 0) (pa_cons (pv 1) (pa_cons (pv 2) pa_nil)))) (pa_cons pe_bl pa_nil))))) (pa_cons (pe_tup (pa_cons (pe_mkN0 m_Bound_k hr passF (pk_cons (pv 0) (pk_cons (pv 1) pk_nil))) (pa_cons (pe_lamF TB rfl hmT huT rfl (by decide +kernel)) (pa_cons (pe_lstN (pa_cons (pv 1) (pa_cons (pv 0) pa_nil))) (pa_cons pe_bl pa_nil))))) (pa_cons (pe_tup (pa_cons (pe_mko m_Endless_2 hr passF (pa_cons (pv 0) (pa_cons (pv 1) pa_nil))) (pa_cons (pe_lamF TB rfl hmT huT rfl (by decide +kernel)) (pa_cons (pe_lstN (pa_cons (pv 0) (pa_cons (pv 1) pa_nil))) (pa_cons pe_bl pa_nil))))) (pa_cons (pe_tup (pa_cons (pe_mkN0 m_Within_k hr passF (pk_cons (pv 0) pk_nil)) (pa_cons (pe_lamF TB rfl hmT huT rfl (by decide +kernel)) (pa_cons (pe_lstN (pa_cons (pv 0) pa_nil)) (pa_cons pe_bl pa_nil))))) (pa_cons (pe_tup (pa_cons (pe_mko m_Beyond_2 hr passF (pa_cons (pv 0) (pa_cons (pv 1) pa_nil))) (pa_cons (pe_lamF TB rfl hmT huT rfl (by decide +kernel)) (pa_cons (pe_lstN (pa_cons (pv 0) (pa_cons (pv 1) pa_nil))) (pa_cons pe_bl pa_nil))))) (pa_cons (pe_tup (pa_cons (pe_mkN0 m_NeverLess_k hr passF (pk_cons (pv 0) pk_nil)) (pa_cons (pe_lamF TB rfl hmT huT rfl (by decide +kernel)) (pa_cons (pe_lstN (pa_cons (pv 0) pa_nil)) (pa_cons pe_bl pa_nil))))) (pa_cons (pe_tup (pa_cons (pe_mko m_Steady_1 hr passF (pa_cons (pv 0) pa_nil)) (pa_cons (pe_lamF TB rfl hmT huT rfl (by decide +kernel)) (pa_cons (pe_lstN (pa_cons (pv 0) pa_nil)) (pa_cons pe_bl pa_nil))))) (pa_cons (pe_tup (pa_cons (pe_mko m_Same_2 hr passF (pa_cons (pv 0) (pa_cons (pv 1) pa_nil))) (pa_cons (pe_lamF TB rfl hmT huT rfl (by decide +kernel)) (pa_cons (pe_lstN (pa_cons (pv 0) (pa_cons (pv 1) pa_nil))) (pa_cons pe_bl pa_nil))))) (pa_cons (pe_tup (pa_cons (pe_mkN0 m_Surely_k hr passF (pk_cons (pv 0) (pk_cons (pv 1) pk_nil))) (pa_cons (pe_lamF TB rfl hmT huT rfl (by decide +kernel)) (pa_cons (pe_lstN (pa_cons (pv 1) (pa_cons (pv 0) pa_nil))) (pa_cons pe_bl pa_nil))))) (pa_cons (pe_tup (pa_cons (pe_mkN0 m_Less_k hr passF (pk_cons (pv 0) pk_nil)) (pa_cons (pe_lamF TB rfl hmT huT rfl (by decide +kernel)) (pa_cons (pe_lstN (pa_cons (pv 0) pa_nil)) (pa_cons pe_bl pa_nil))))) (pa_cons (pe_tup (pa_cons (pe_mko m_Jump_1 hr passF (pa_cons (pv 0) pa_nil)) (pa_cons (pe_lamF TB rfl hmT huT rfl (by decide +kernel)) (pa_cons (pe_lstN (pa_cons (pv 0) pa_nil)) (pa_cons pe_bl pa_nil))))) (pa_cons (pe_tup (pa_cons (pe_mko m_Other_1 hr passF (pa_cons (pv 0) pa_nil)) (pa_cons (pe_lamF TB rfl hmT huT rfl (by decide +kernel)) (pa_cons (pe_lstN (pa_cons (pv 0) pa_nil)) (pa_cons pe_bl pa_nil))))) (pa_cons (pe_tup (pa_cons (pe_mko m_Counter_2 hr passF (pa_cons (pv 0) (pa_cons (pv 1) pa_nil))) (pa_cons (pe_lamF TB rfl hmT huT rfl (by decide +kernel)) (pa_cons (pe_lstN (pa_cons (pv 0) (pa_cons (pv 1) pa_nil))) (pa_cons pe_bl pa_nil))))) (pa_cons (pe_tup (pa_cons (pe_mkN0 m_Undecided_k hr passF (pk_cons (pv 0) pk_nil)) (pa_cons (pe_lamF TB rfl hmT huT rfl (by decide +kernel)) (pa_cons (pe_lstN (pa_cons (pv 0) pa_nil)) (pa_cons pe_bl pa_nil))))) (pa_cons (pe_tup (pa_cons (pe_mko m_BatchBound_3 hr passF (pa_cons (pv 0) (pa_cons (pv 1) (pa_cons pe_int pa_nil)))) (pa_cons (pe_lamF TB rfl hmT huT rfl (by decide +kernel)) (pa_cons (pe_lstN (pa_cons (pv 0) (pa_cons (pv 1) (pa_cons pe_int pa_nil)))) (pa_cons pe_bl pa_nil))))) (pa_cons (pe_tup (pa_cons (pe_mkN0 m_BatchEndless_k hr passF (pk_cons (pv 0) (pk_cons (pv 1) pk_nil))) (pa_cons (pe_lamF TB rfl hmT huT rfl (by decide +kernel)) (pa_cons (pe_lstN (pa_cons (pv 0) (pa_cons (pv 1) pa_nil))) (pa_cons pe_bl pa_nil))))) (pa_cons (pe_tup (pa_cons (pe_mko m_BestOrder_3 hr passF (pa_cons (pv 0) (pa_cons (pv 1) (pa_cons pe_int pa_nil)))) (pa_cons (pe_lamF TB rfl hmT huT rfl (by decide +kernel)) (pa_cons (pe_lstN (pa_cons (pv 0) (pa_cons (pv 1) (pa_cons pe_int pa_nil)))) (pa_cons pe_bl pa_nil))))) (pa_cons (pe_tup (pa_cons (pe_mkN0 m_Fits_k hr passF (pk_cons (pv 0) pk_nil)) (pa_cons (pe_lamF TB rfl hmT huT rfl (by decide +kernel)) (pa_cons (pe_lstN (pa_cons (pv 0) pa_nil)) (pa_cons pe_bl pa_nil))))) (pa_cons (pe_tup (pa_cons (pe_mko m_Misfit_2 hr passF (pa_cons (pv 0) (pa_cons (pv 1) pa_nil))) (pa_cons (pe_lamF TB rfl hmT huT rfl (by decide +kernel)) (pa_cons (pe_lstN (pa_cons (pv 0) (pa_cons (pv 1) pa_nil))) (pa_cons pe_bl pa_nil))))) (pa_cons (pe_tup (pa_cons (pe_mkN0 m_Ring_k hr passF (pk_cons (pv 0) pk_nil)) (pa_cons (pe_lamF TB rfl hmT huT rfl (by decide +kernel)) (pa_cons (pe_lstN (pa_cons (pv 0) pa_nil)) (pa_cons pe_bl pa_nil))))) (pa_cons (pe_tup (pa_cons (pe_mko m_Came_2 hr passF (pa_cons (pv 0) (pa_cons (pv 1) pa_nil))) (pa_cons (pe_lamF TB rfl hmT huT rfl (by decide +kernel)) (pa_cons (pe_lstN (pa_cons (pv 0) (pa_cons (pv 1) pa_nil))) (pa_cons pe_bl pa_nil))))) (pa_cons (pe_tup (pa_cons (pe_mko m_Taking_4 hr passF (pa_cons (pv 0) (pa_cons (pv 1) (pa_cons pe_int (pa_cons pe_int pa_nil))))) (pa_cons (pe_lamF TB rfl hmT huT rfl (by decide +kernel)) (pa_cons (pe_lstN (pa_cons (pv 0) (pa_cons (pv 1) (pa_cons pe_int pa_nil)))) (pa_cons pe_bl pa_nil))))) (pa_cons (pe_tup (pa_cons (pe_mkN0 m_Taking_k hr passF (pk_cons (pv 0) (pk_cons (pv 1) (pk_cons pe_int (pk_cons pe_int pk_nil))))) (pa_cons (pe_lamF TB rfl hmT huT rfl (by decide +kernel)) (pa_cons (pe_lstN (pa_cons (pv 0) (pa_cons (pv 1) pa_nil))) (pa_cons pe_int pa_nil))))) (pa_cons (pe_tup (pa_cons (pe_mko m_PoolTaking_5 hr passF (pa_cons (pv 0) (pa_cons (pv 1) (pa_cons pe_int (pa_cons pe_int (pa_cons pe_int pa_nil)))))) (pa_cons (pe_lamF TB rfl hmT huT rfl (by decide +kernel)) (pa_cons (pe_lstN (pa_cons (pv 0) (pa_cons (pv 1) (pa_cons pe_int pa_nil)))) (pa_cons pe_int pa_nil))))) (pa_cons (pe_tup (pa_cons (pe_mkN m_PoolTaking_k hr passF (pa_cons pe_int (pa_cons pe_int (pa_cons pe_int pa_nil))) (pk_cons (pv 0) (pk_cons (pv 1) pk_nil))) (pa_cons (pe_lamF TB rfl hmT huT rfl (by decide +kernel)) (pa_cons (pe_lstN (pa_cons (pv 1) (pa_cons (pv 0) pa_nil))) (pa_cons pe_bl pa_nil))))) pa_nil))))))))))))))))))))))))))))))))), ?_⟩
    refine s_ret ?_
    refine s_lstN ?_
    refine s_rowP (Lm := Lm P w K mg base) (cs := cs) hLm ⟨0, flF ["chunks"] [v1], ["chunks"], [v1], .bl true⟩ ht (fun H R h => mkP [v1] (fun R' h => ⟨v1, rfl, h⟩) rfl h) (fun H R t h => s_lamF t fun f c' H1 hf e1 t1 l1 k1 => h f H1 e1 t1 ⟨"_law_told", _, _, _, _, c', l1, k1, ⟨by intros; rfl, ⟨rfl, rfl, rfl, by decide, rfl, by decide +kernel, by decide +kernel⟩, fun A outer s H E f c' v Q hr h => ⟨_, pe_lstN (pa_cons (KX.fld (K := K) rfl (pe_var (i := 0) rfl (Or.inl rfl)) rfl) pa_nil), s_tp1 h⟩⟩⟩)
      (fun H R h => ⟨v1, rfl, ⟨(show 1 ≤ sizeLine by decide), fun p hp np => h p _ (ex_new hp) upd_same np⟩⟩) (fun H R h => h) fun a1 H1 e1 t1 r1 => ?_
    refine s_rowP (Lm := Lm P w K mg base) (cs := cs) hLm ⟨1, flF ["rests"] [v1], ["rests"], [v1], .bl false⟩ t1 (fun H R h => mkPK [v1] (fun R' hR => ⟨v1, rfl, hR [] [v1] rfl rfl fun a => rfl⟩) rfl h) (fun H R t h => s_lamF t fun f c' H1 hf e1 t1 l1 k1 => h f H1 e1 t1 ⟨"_law_told", _, _, _, _, c', l1, k1, ⟨by intros; rfl, ⟨rfl, rfl, rfl, by decide, rfl, by decide +kernel, by decide +kernel⟩, fun A outer s H E f c' v Q hr h => ⟨_, pe_lstN (pa_cons (KX.fld (K := K) rfl (pe_var (i := 0) rfl (Or.inl rfl)) rfl) pa_nil), s_tp1 h⟩⟩⟩)
      (fun H R h => ⟨v1, rfl, ⟨(show 1 ≤ sizeLine by decide), fun p hp np => h p _ (ex_new hp) upd_same np⟩⟩) (fun H R h => h) fun a2 H2 e2 t2 r2 => ?_
    refine s_rowP (Lm := Lm P w K mg base) (cs := cs) hLm ⟨2, flF ["total", "chunks"] [v1, v2], ["total", "chunks"], [v1, v2], .bl true⟩ t2 (fun H R h => mkP [v1, v2] (fun R' h => ⟨v1, rfl, ⟨v2, rfl, h⟩⟩) rfl h) (fun H R t h => s_lamF t fun f c' H1 hf e1 t1 l1 k1 => h f H1 e1 t1 ⟨"_law_told", _, _, _, _, c', l1, k1, ⟨by intros; rfl, ⟨rfl, rfl, rfl, by decide, rfl, by decide +kernel, by decide +kernel⟩, fun A outer s H E f c' v Q hr h => ⟨_, pe_lstN (pa_cons (KX.fld (K := K) rfl (pe_var (i := 0) rfl (Or.inl rfl)) rfl) (pa_cons (KX.fld (K := K) rfl (pe_var (i := 0) rfl (Or.inl rfl)) rfl) pa_nil)), s_tp2 h⟩⟩⟩)
      (fun H R h => ⟨v1, rfl, ⟨v2, rfl, ⟨(show 2 ≤ sizeLine by decide), fun p hp np => h p _ (ex_new hp) upd_same np⟩⟩⟩) (fun H R h => h) fun a3 H3 e3 t3 r3 => ?_
    refine s_rowP (Lm := Lm P w K mg base) (cs := cs) hLm ⟨3, flF ["limit", "chunks", "below"] [v1, v2, v3], ["limit", "chunks", "below"], [v1, v2, v3], .bl true⟩ t3 (fun H R h => mkP [v1, v2, v3] (fun R' h => ⟨v1, rfl, ⟨v2, rfl, ⟨v3, rfl, h⟩⟩⟩) rfl h) (fun H R t h => s_lamF t fun f c' H1 hf e1 t1 l1 k1 => h f H1 e1 t1 ⟨"_law_told", _, _, _, _, c', l1, k1, ⟨by intros; rfl, ⟨rfl, rfl, rfl, by decide, rfl, by decide +kernel, by decide +kernel⟩, fun A outer s H E f c' v Q hr h => ⟨_, pe_lstN (pa_cons (KX.fld (K := K) rfl (pe_var (i := 0) rfl (Or.inl rfl)) rfl) (pa_cons (KX.fld (K := K) rfl (pe_var (i := 0) rfl (Or.inl rfl)) rfl) (pa_cons (KX.fld (K := K) rfl (pe_var (i := 0) rfl (Or.inl rfl)) rfl) pa_nil))), s_tp3 h⟩⟩⟩)
      (fun H R h => ⟨v1, rfl, ⟨v2, rfl, ⟨v3, rfl, ⟨(show 3 ≤ sizeLine by decide), fun p hp np => h p _ (ex_new hp) upd_same np⟩⟩⟩⟩) (fun H R h => h) fun a4 H4 e4 t4 r4 => ?_
    refine s_rowP (Lm := Lm P w K mg base) (cs := cs) hLm ⟨3, flF ["limit", "chunks", "below"] [v3, v2, v1], ["limit", "below"], [v3, v1], .bl true⟩ t4 (fun H R h => mkPK [v3, v2, v1] (fun R' hR => ⟨v1, rfl, ⟨v2, rfl, ⟨v3, rfl, hR [] [v1, v2, v3] rfl rfl fun a => rfl⟩⟩⟩) rfl h) (fun H R t h => s_lamF t fun f c' H1 hf e1 t1 l1 k1 => h f H1 e1 t1 ⟨"_law_told", _, _, _, _, c', l1, k1, ⟨by intros; rfl, ⟨rfl, rfl, rfl, by decide, rfl, by decide +kernel, by decide +kernel⟩, fun A outer s H E f c' v Q hr h => ⟨_, pe_lstN (pa_cons (KX.fld (K := K) rfl (pe_var (i := 0) rfl (Or.inl rfl)) rfl) (pa_cons (KX.fld (K := K) rfl (pe_var (i := 0) rfl (Or.inl rfl)) rfl) pa_nil)), s_tp2 h⟩⟩⟩)
      (fun H R h => ⟨v3, rfl, ⟨v1, rfl, ⟨(show 2 ≤ sizeLine by decide), fun p hp np => h p _ (ex_new hp) upd_same np⟩⟩⟩) (fun H R h => h) fun a5 H5 e5 t5 r5 => ?_
    refine s_rowP (Lm := Lm P w K mg base) (cs := cs) hLm ⟨19, flF ["late", "at", "world"] [v1, v2, v3], ["late", "at", "world"], [v1, v2, v3], .bl true⟩ t5 (fun H R h => mkP [v1, v2, v3] (fun R' h => ⟨v1, rfl, ⟨v2, rfl, ⟨v3, rfl, h⟩⟩⟩) rfl h) (fun H R t h => s_lamF t fun f c' H1 hf e1 t1 l1 k1 => h f H1 e1 t1 ⟨"_law_told", _, _, _, _, c', l1, k1, ⟨by intros; rfl, ⟨rfl, rfl, rfl, by decide, rfl, by decide +kernel, by decide +kernel⟩, fun A outer s H E f c' v Q hr h => ⟨_, pe_lstN (pa_cons (KX.fld (K := K) rfl (pe_var (i := 0) rfl (Or.inl rfl)) rfl) (pa_cons (KX.fld (K := K) rfl (pe_var (i := 0) rfl (Or.inl rfl)) rfl) (pa_cons (KX.fld (K := K) rfl (pe_var (i := 0) rfl (Or.inl rfl)) rfl) pa_nil))), s_tp3 h⟩⟩⟩)
      (fun H R h => ⟨v1, rfl, ⟨v2, rfl, ⟨v3, rfl, ⟨(show 3 ≤ sizeLine by decide), fun p hp np => h p _ (ex_new hp) upd_same np⟩⟩⟩⟩) (fun H R h => h) fun a6 H6 e6 t6 r6 => ?_
    refine s_rowP (Lm := Lm P w K mg base) (cs := cs) hLm ⟨15, flF ["late", "rest"] [v2, v1], ["late", "rest"], [v2, v1], .bl true⟩ t6 (fun H R h => mkPK [v2, v1] (fun R' hR => ⟨v1, rfl, ⟨v2, rfl, hR [] [v1, v2] rfl rfl fun a => rfl⟩⟩) rfl h) (fun H R t h => s_lamF t fun f c' H1 hf e1 t1 l1 k1 => h f H1 e1 t1 ⟨"_law_told", _, _, _, _, c', l1, k1, ⟨by intros; rfl, ⟨rfl, rfl, rfl, by decide, rfl, by decide +kernel, by decide +kernel⟩, fun A outer s H E f c' v Q hr h => ⟨_, pe_lstN (pa_cons (KX.fld (K := K) rfl (pe_var (i := 0) rfl (Or.inl rfl)) rfl) (pa_cons (KX.fld (K := K) rfl (pe_var (i := 0) rfl (Or.inl rfl)) rfl) pa_nil)), s_tp2 h⟩⟩⟩)
      (fun H R h => ⟨v2, rfl, ⟨v1, rfl, ⟨(show 2 ≤ sizeLine by decide), fun p hp np => h p _ (ex_new hp) upd_same np⟩⟩⟩) (fun H R h => h) fun a7 H7 e7 t7 r7 => ?_
    refine s_rowP (Lm := Lm P w K mg base) (cs := cs) hLm ⟨16, flF ["residue", "begin"] [v1, v2], ["residue", "begin"], [v1, v2], .bl false⟩ t7 (fun H R h => mkP [v1, v2] (fun R' h => ⟨v1, rfl, ⟨v2, rfl, h⟩⟩) rfl h) (fun H R t h => s_lamF t fun f c' H1 hf e1 t1 l1 k1 => h f H1 e1 t1 ⟨"_law_told", _, _, _, _, c', l1, k1, ⟨by intros; rfl, ⟨rfl, rfl, rfl, by decide, rfl, by decide +kernel, by decide +kernel⟩, fun A outer s H E f c' v Q hr h => ⟨_, pe_lstN (pa_cons (KX.fld (K := K) rfl (pe_var (i := 0) rfl (Or.inl rfl)) rfl) (pa_cons (KX.fld (K := K) rfl (pe_var (i := 0) rfl (Or.inl rfl)) rfl) pa_nil)), s_tp2 h⟩⟩⟩)
      (fun H R h => ⟨v1, rfl, ⟨v2, rfl, ⟨(show 2 ≤ sizeLine by decide), fun p hp np => h p _ (ex_new hp) upd_same np⟩⟩⟩) (fun H R h => h) fun a8 H8 e8 t8 r8 => ?_
    refine s_rowP (Lm := Lm P w K mg base) (cs := cs) hLm ⟨17, flF ["table"] [v1], ["table"], [v1], .bl true⟩ t8 (fun H R h => mkPK [v1] (fun R' hR => ⟨v1, rfl, hR [] [v1] rfl rfl fun a => rfl⟩) rfl h) (fun H R t h => s_lamF t fun f c' H1 hf e1 t1 l1 k1 => h f H1 e1 t1 ⟨"_law_told", _, _, _, _, c', l1, k1, ⟨by intros; rfl, ⟨rfl, rfl, rfl, by decide, rfl, by decide +kernel, by decide +kernel⟩, fun A outer s H E f c' v Q hr h => ⟨_, pe_lstN (pa_cons (KX.fld (K := K) rfl (pe_var (i := 0) rfl (Or.inl rfl)) rfl) pa_nil), s_tp1 h⟩⟩⟩)
      (fun H R h => ⟨v1, rfl, ⟨(show 1 ≤ sizeLine by decide), fun p hp np => h p _ (ex_new hp) upd_same np⟩⟩) (fun H R h => h) fun a9 H9 e9 t9 r9 => ?_
    refine s_rowP (Lm := Lm P w K mg base) (cs := cs) hLm ⟨18, flF ["rest", "late"] [v1, v2], ["rest", "late"], [v1, v2], .bl false⟩ t9 (fun H R h => mkP [v1, v2] (fun R' h => ⟨v1, rfl, ⟨v2, rfl, h⟩⟩) rfl h) (fun H R t h => s_lamF t fun f c' H1 hf e1 t1 l1 k1 => h f H1 e1 t1 ⟨"_law_told", _, _, _, _, c', l1, k1, ⟨by intros; rfl, ⟨rfl, rfl, rfl, by decide, rfl, by decide +kernel, by decide +kernel⟩, fun A outer s H E f c' v Q hr h => ⟨_, pe_lstN (pa_cons (KX.fld (K := K) rfl (pe_var (i := 0) rfl (Or.inl rfl)) rfl) (pa_cons (KX.fld (K := K) rfl (pe_var (i := 0) rfl (Or.inl rfl)) rfl) pa_nil)), s_tp2 h⟩⟩⟩)
      (fun H R h => ⟨v1, rfl, ⟨v2, rfl, ⟨(show 2 ≤ sizeLine by decide), fun p hp np => h p _ (ex_new hp) upd_same np⟩⟩⟩) (fun H R h => h) fun a10 H10 e10 t10 r10 => ?_
    refine s_rowP (Lm := Lm P w K mg base) (cs := cs) hLm ⟨6, flF ["begins"] [v1], ["begins"], [v1], .bl true⟩ t10 (fun H R h => mkPK [v1] (fun R' hR => ⟨v1, rfl, hR [] [v1] rfl rfl fun a => rfl⟩) rfl h) (fun H R t h => s_lamF t fun f c' H1 hf e1 t1 l1 k1 => h f H1 e1 t1 ⟨"_law_told", _, _, _, _, c', l1, k1, ⟨by intros; rfl, ⟨rfl, rfl, rfl, by decide, rfl, by decide +kernel, by decide +kernel⟩, fun A outer s H E f c' v Q hr h => ⟨_, pe_lstN (pa_cons (KX.fld (K := K) rfl (pe_var (i := 0) rfl (Or.inl rfl)) rfl) pa_nil), s_tp1 h⟩⟩⟩)
      (fun H R h => ⟨v1, rfl, ⟨(show 1 ≤ sizeLine by decide), fun p hp np => h p _ (ex_new hp) upd_same np⟩⟩) (fun H R h => h) fun a11 H11 e11 t11 r11 => ?_
    refine s_rowP (Lm := Lm P w K mg base) (cs := cs) hLm ⟨8, flF ["begins"] [v1], ["begins"], [v1], .bl true⟩ t11 (fun H R h => mkP [v1] (fun R' h => ⟨v1, rfl, h⟩) rfl h) (fun H R t h => s_lamF t fun f c' H1 hf e1 t1 l1 k1 => h f H1 e1 t1 ⟨"_law_told", _, _, _, _, c', l1, k1, ⟨by intros; rfl, ⟨rfl, rfl, rfl, by decide, rfl, by decide +kernel, by decide +kernel⟩, fun A outer s H E f c' v Q hr h => ⟨_, pe_lstN (pa_cons (KX.fld (K := K) rfl (pe_var (i := 0) rfl (Or.inl rfl)) rfl) pa_nil), s_tp1 h⟩⟩⟩)
      (fun H R h => ⟨v1, rfl, ⟨(show 1 ≤ sizeLine by decide), fun p hp np => h p _ (ex_new hp) upd_same np⟩⟩) (fun H R h => h) fun a12 H12 e12 t12 r12 => ?_
    refine s_rowP (Lm := Lm P w K mg base) (cs := cs) hLm ⟨10, flF ["first", "last"] [v1, v2], ["first", "last"], [v1, v2], .bl true⟩ t12 (fun H R h => mkP [v1, v2] (fun R' h => ⟨v1, rfl, ⟨v2, rfl, h⟩⟩) rfl h) (fun H R t h => s_lamF t fun f c' H1 hf e1 t1 l1 k1 => h f H1 e1 t1 ⟨"_law_told", _, _, _, _, c', l1, k1, ⟨by intros; rfl, ⟨rfl, rfl, rfl, by decide, rfl, by decide +kernel, by decide +kernel⟩, fun A outer s H E f c' v Q hr h => ⟨_, pe_lstN (pa_cons (KX.fld (K := K) rfl (pe_var (i := 0) rfl (Or.inl rfl)) rfl) (pa_cons (KX.fld (K := K) rfl (pe_var (i := 0) rfl (Or.inl rfl)) rfl) pa_nil)), s_tp2 h⟩⟩⟩)
      (fun H R h => ⟨v1, rfl, ⟨v2, rfl, ⟨(show 2 ≤ sizeLine by decide), fun p hp np => h p _ (ex_new hp) upd_same np⟩⟩⟩) (fun H R h => h) fun a13 H13 e13 t13 r13 => ?_
    refine s_rowP (Lm := Lm P w K mg base) (cs := cs) hLm ⟨12, flF ["never", "steady"] [v2, v1], ["never", "steady"], [v2, v1], .bl true⟩ t13 (fun H R h => mkPK [v2, v1] (fun R' hR => ⟨v1, rfl, ⟨v2, rfl, hR [] [v1, v2] rfl rfl fun a => rfl⟩⟩) rfl h) (fun H R t h => s_lamF t fun f c' H1 hf e1 t1 l1 k1 => h f H1 e1 t1 ⟨"_law_told", _, _, _, _, c', l1, k1, ⟨by intros; rfl, ⟨rfl, rfl, rfl, by decide, rfl, by decide +kernel, by decide +kernel⟩, fun A outer s H E f c' v Q hr h => ⟨_, pe_lstN (pa_cons (KX.fld (K := K) rfl (pe_var (i := 0) rfl (Or.inl rfl)) rfl) (pa_cons (KX.fld (K := K) rfl (pe_var (i := 0) rfl (Or.inl rfl)) rfl) pa_nil)), s_tp2 h⟩⟩⟩)
      (fun H R h => ⟨v2, rfl, ⟨v1, rfl, ⟨(show 2 ≤ sizeLine by decide), fun p hp np => h p _ (ex_new hp) upd_same np⟩⟩⟩) (fun H R h => h) fun a14 H14 e14 t14 r14 => ?_
    refine s_rowP (Lm := Lm P w K mg base) (cs := cs) hLm ⟨7, flF ["rest"] [v1], ["rest"], [v1], .bl false⟩ t14 (fun H R h => mkPK [v1] (fun R' hR => ⟨v1, rfl, hR [] [v1] rfl rfl fun a => rfl⟩) rfl h) (fun H R t h => s_lamF t fun f c' H1 hf e1 t1 l1 k1 => h f H1 e1 t1 ⟨"_law_told", _, _, _, _, c', l1, k1, ⟨by intros; rfl, ⟨rfl, rfl, rfl, by decide, rfl, by decide +kernel, by decide +kernel⟩, fun A outer s H E f c' v Q hr h => ⟨_, pe_lstN (pa_cons (KX.fld (K := K) rfl (pe_var (i := 0) rfl (Or.inl rfl)) rfl) pa_nil), s_tp1 h⟩⟩⟩)
      (fun H R h => ⟨v1, rfl, ⟨(show 1 ≤ sizeLine by decide), fun p hp np => h p _ (ex_new hp) upd_same np⟩⟩) (fun H R h => h) fun a15 H15 e15 t15 r15 => ?_
    refine s_rowP (Lm := Lm P w K mg base) (cs := cs) hLm ⟨9, flF ["rest"] [v1], ["rest"], [v1], .bl false⟩ t15 (fun H R h => mkP [v1] (fun R' h => ⟨v1, rfl, h⟩) rfl h) (fun H R t h => s_lamF t fun f c' H1 hf e1 t1 l1 k1 => h f H1 e1 t1 ⟨"_law_told", _, _, _, _, c', l1, k1, ⟨by intros; rfl, ⟨rfl, rfl, rfl, by decide, rfl, by decide +kernel, by decide +kernel⟩, fun A outer s H E f c' v Q hr h => ⟨_, pe_lstN (pa_cons (KX.fld (K := K) rfl (pe_var (i := 0) rfl (Or.inl rfl)) rfl) pa_nil), s_tp1 h⟩⟩⟩)
      (fun H R h => ⟨v1, rfl, ⟨(show 1 ≤ sizeLine by decide), fun p hp np => h p _ (ex_new hp) upd_same np⟩⟩) (fun H R h => h) fun a16 H16 e16 t16 r16 => ?_
    refine s_rowP (Lm := Lm P w K mg base) (cs := cs) hLm ⟨11, flF ["rest"] [v1], ["rest"], [v1], .bl false⟩ t16 (fun H R h => mkP [v1] (fun R' h => ⟨v1, rfl, h⟩) rfl h) (fun H R t h => s_lamF t fun f c' H1 hf e1 t1 l1 k1 => h f H1 e1 t1 ⟨"_law_told", _, _, _, _, c', l1, k1, ⟨by intros; rfl, ⟨rfl, rfl, rfl, by decide, rfl, by decide +kernel, by decide +kernel⟩, fun A outer s H E f c' v Q hr h => ⟨_, pe_lstN (pa_cons (KX.fld (K := K) rfl (pe_var (i := 0) rfl (Or.inl rfl)) rfl) pa_nil), s_tp1 h⟩⟩⟩)
      (fun H R h => ⟨v1, rfl, ⟨(show 1 ≤ sizeLine by decide), fun p hp np => h p _ (ex_new hp) upd_same np⟩⟩) (fun H R h => h) fun a17 H17 e17 t17 r17 => ?_
    refine s_rowP (Lm := Lm P w K mg base) (cs := cs) hLm ⟨13, flF ["total", "counts"] [v1, v2], ["total", "counts"], [v1, v2], .bl false⟩ t17 (fun H R h => mkP [v1, v2] (fun R' h => ⟨v1, rfl, ⟨v2, rfl, h⟩⟩) rfl h) (fun H R t h => s_lamF t fun f c' H1 hf e1 t1 l1 k1 => h f H1 e1 t1 ⟨"_law_told", _, _, _, _, c', l1, k1, ⟨by intros; rfl, ⟨rfl, rfl, rfl, by decide, rfl, by decide +kernel, by decide +kernel⟩, fun A outer s H E f c' v Q hr h => ⟨_, pe_lstN (pa_cons (KX.fld (K := K) rfl (pe_var (i := 0) rfl (Or.inl rfl)) rfl) (pa_cons (KX.fld (K := K) rfl (pe_var (i := 0) rfl (Or.inl rfl)) rfl) pa_nil)), s_tp2 h⟩⟩⟩)
      (fun H R h => ⟨v1, rfl, ⟨v2, rfl, ⟨(show 2 ≤ sizeLine by decide), fun p hp np => h p _ (ex_new hp) upd_same np⟩⟩⟩) (fun H R h => h) fun a18 H18 e18 t18 r18 => ?_
    refine s_rowP (Lm := Lm P w K mg base) (cs := cs) hLm ⟨14, flF ["upto"] [v1], ["upto"], [v1], .bl false⟩ t18 (fun H R h => mkPK [v1] (fun R' hR => ⟨v1, rfl, hR [] [v1] rfl rfl fun a => rfl⟩) rfl h) (fun H R t h => s_lamF t fun f c' H1 hf e1 t1 l1 k1 => h f H1 e1 t1 ⟨"_law_told", _, _, _, _, c', l1, k1, ⟨by intros; rfl, ⟨rfl, rfl, rfl, by decide, rfl, by decide +kernel, by decide +kernel⟩, fun A outer s H E f c' v Q hr h => ⟨_, pe_lstN (pa_cons (KX.fld (K := K) rfl (pe_var (i := 0) rfl (Or.inl rfl)) rfl) pa_nil), s_tp1 h⟩⟩⟩)
      (fun H R h => ⟨v1, rfl, ⟨(show 1 ≤ sizeLine by decide), fun p hp np => h p _ (ex_new hp) upd_same np⟩⟩) (fun H R h => h) fun a19 H19 e19 t19 r19 => ?_
    refine s_rowP (Lm := Lm P w K mg base) (cs := cs) hLm ⟨4, flF ["late", "rest", "spot"] [v1, v2, .int 3], ["late", "rest", "spot"], [v1, v2, .int 3], .bl true⟩ t19 (fun H R h => mkP [v1, v2, .int 3] (fun R' h => ⟨v1, rfl, ⟨v2, rfl, h⟩⟩) rfl h) (fun H R t h => s_lamF t fun f c' H1 hf e1 t1 l1 k1 => h f H1 e1 t1 ⟨"_law_told", _, _, _, _, c', l1, k1, ⟨by intros; rfl, ⟨rfl, rfl, rfl, by decide, rfl, by decide +kernel, by decide +kernel⟩, fun A outer s H E f c' v Q hr h => ⟨_, pe_lstN (pa_cons (KX.fld (K := K) rfl (pe_var (i := 0) rfl (Or.inl rfl)) rfl) (pa_cons (KX.fld (K := K) rfl (pe_var (i := 0) rfl (Or.inl rfl)) rfl) (pa_cons (KX.fld (K := K) rfl (pe_var (i := 0) rfl (Or.inl rfl)) rfl) pa_nil))), s_tp3 h⟩⟩⟩)
      (fun H R h => ⟨v1, rfl, ⟨v2, rfl, ⟨(show 3 ≤ sizeLine by decide), fun p hp np => h p _ (ex_new hp) upd_same np⟩⟩⟩) (fun H R h => h) fun a20 H20 e20 t20 r20 => ?_
    refine s_rowP (Lm := Lm P w K mg base) (cs := cs) hLm ⟨5, flF ["spot", "rise"] [v1, v2], ["spot", "rise"], [v1, v2], .bl false⟩ t20 (fun H R h => mkPK [v1, v2] (fun R' hR => ⟨v1, rfl, ⟨v2, rfl, hR [] [v1, v2] rfl rfl fun a => rfl⟩⟩) rfl h) (fun H R t h => s_lamF t fun f c' H1 hf e1 t1 l1 k1 => h f H1 e1 t1 ⟨"_law_told", _, _, _, _, c', l1, k1, ⟨by intros; rfl, ⟨rfl, rfl, rfl, by decide, rfl, by decide +kernel, by decide +kernel⟩, fun A outer s H E f c' v Q hr h => ⟨_, pe_lstN (pa_cons (KX.fld (K := K) rfl (pe_var (i := 0) rfl (Or.inl rfl)) rfl) (pa_cons (KX.fld (K := K) rfl (pe_var (i := 0) rfl (Or.inl rfl)) rfl) pa_nil)), s_tp2 h⟩⟩⟩)
      (fun H R h => ⟨v1, rfl, ⟨v2, rfl, ⟨(show 2 ≤ sizeLine by decide), fun p hp np => h p _ (ex_new hp) upd_same np⟩⟩⟩) (fun H R h => h) fun a21 H21 e21 t21 r21 => ?_
    refine s_rowP (Lm := Lm P w K mg base) (cs := cs) hLm ⟨25, flF ["names", "late", "last"] [v1, v2, .int 3], ["names", "late", "last"], [v1, v2, .int 3], .bl true⟩ t21 (fun H R h => mkP [v1, v2, .int 3] (fun R' h => ⟨v1, rfl, ⟨v2, rfl, h⟩⟩) rfl h) (fun H R t h => s_lamF t fun f c' H1 hf e1 t1 l1 k1 => h f H1 e1 t1 ⟨"_law_told", _, _, _, _, c', l1, k1, ⟨by intros; rfl, ⟨rfl, rfl, rfl, by decide, rfl, by decide +kernel, by decide +kernel⟩, fun A outer s H E f c' v Q hr h => ⟨_, pe_lstN (pa_cons (KX.fld (K := K) rfl (pe_var (i := 0) rfl (Or.inl rfl)) rfl) (pa_cons (KX.fld (K := K) rfl (pe_var (i := 0) rfl (Or.inl rfl)) rfl) (pa_cons (KX.fld (K := K) rfl (pe_var (i := 0) rfl (Or.inl rfl)) rfl) pa_nil))), s_tp3 h⟩⟩⟩)
      (fun H R h => ⟨v1, rfl, ⟨v2, rfl, ⟨(show 3 ≤ sizeLine by decide), fun p hp np => h p _ (ex_new hp) upd_same np⟩⟩⟩) (fun H R h => h) fun a22 H22 e22 t22 r22 => ?_
    refine s_rowP (Lm := Lm P w K mg base) (cs := cs) hLm ⟨21, flF ["world"] [v1], ["world"], [v1], .bl true⟩ t22 (fun H R h => mkPK [v1] (fun R' hR => ⟨v1, rfl, hR [] [v1] rfl rfl fun a => rfl⟩) rfl h) (fun H R t h => s_lamF t fun f c' H1 hf e1 t1 l1 k1 => h f H1 e1 t1 ⟨"_law_told", _, _, _, _, c', l1, k1, ⟨by intros; rfl, ⟨rfl, rfl, rfl, by decide, rfl, by decide +kernel, by decide +kernel⟩, fun A outer s H E f c' v Q hr h => ⟨_, pe_lstN (pa_cons (KX.fld (K := K) rfl (pe_var (i := 0) rfl (Or.inl rfl)) rfl) pa_nil), s_tp1 h⟩⟩⟩)
      (fun H R h => ⟨v1, rfl, ⟨(show 1 ≤ sizeLine by decide), fun p hp np => h p _ (ex_new hp) upd_same np⟩⟩) (fun H R h => h) fun a23 H23 e23 t23 r23 => ?_
    refine s_rowP (Lm := Lm P w K mg base) (cs := cs) hLm ⟨22, flF ["at", "why"] [v1, v2], ["at", "why"], [v1, v2], .bl false⟩ t23 (fun H R h => mkP [v1, v2] (fun R' h => ⟨v1, rfl, ⟨v2, rfl, h⟩⟩) rfl h) (fun H R t h => s_lamF t fun f c' H1 hf e1 t1 l1 k1 => h f H1 e1 t1 ⟨"_law_told", _, _, _, _, c', l1, k1, ⟨by intros; rfl, ⟨rfl, rfl, rfl, by decide, rfl, by decide +kernel, by decide +kernel⟩, fun A outer s H E f c' v Q hr h => ⟨_, pe_lstN (pa_cons (KX.fld (K := K) rfl (pe_var (i := 0) rfl (Or.inl rfl)) rfl) (pa_cons (KX.fld (K := K) rfl (pe_var (i := 0) rfl (Or.inl rfl)) rfl) pa_nil)), s_tp2 h⟩⟩⟩)
      (fun H R h => ⟨v1, rfl, ⟨v2, rfl, ⟨(show 2 ≤ sizeLine by decide), fun p hp np => h p _ (ex_new hp) upd_same np⟩⟩⟩) (fun H R h => h) fun a24 H24 e24 t24 r24 => ?_
    refine s_rowP (Lm := Lm P w K mg base) (cs := cs) hLm ⟨23, flF ["workers"] [v1], ["workers"], [v1], .bl false⟩ t24 (fun H R h => mkPK [v1] (fun R' hR => ⟨v1, rfl, hR [] [v1] rfl rfl fun a => rfl⟩) rfl h) (fun H R t h => s_lamF t fun f c' H1 hf e1 t1 l1 k1 => h f H1 e1 t1 ⟨"_law_told", _, _, _, _, c', l1, k1, ⟨by intros; rfl, ⟨rfl, rfl, rfl, by decide, rfl, by decide +kernel, by decide +kernel⟩, fun A outer s H E f c' v Q hr h => ⟨_, pe_lstN (pa_cons (KX.fld (K := K) rfl (pe_var (i := 0) rfl (Or.inl rfl)) rfl) pa_nil), s_tp1 h⟩⟩⟩)
      (fun H R h => ⟨v1, rfl, ⟨(show 1 ≤ sizeLine by decide), fun p hp np => h p _ (ex_new hp) upd_same np⟩⟩) (fun H R h => h) fun a25 H25 e25 t25 r25 => ?_
    refine s_rowP (Lm := Lm P w K mg base) (cs := cs) hLm ⟨24, flF ["least", "most"] [v1, v2], ["least", "most"], [v1, v2], .bl true⟩ t25 (fun H R h => mkP [v1, v2] (fun R' h => ⟨v1, rfl, ⟨v2, rfl, h⟩⟩) rfl h) (fun H R t h => s_lamF t fun f c' H1 hf e1 t1 l1 k1 => h f H1 e1 t1 ⟨"_law_told", _, _, _, _, c', l1, k1, ⟨by intros; rfl, ⟨rfl, rfl, rfl, by decide, rfl, by decide +kernel, by decide +kernel⟩, fun A outer s H E f c' v Q hr h => ⟨_, pe_lstN (pa_cons (KX.fld (K := K) rfl (pe_var (i := 0) rfl (Or.inl rfl)) rfl) (pa_cons (KX.fld (K := K) rfl (pe_var (i := 0) rfl (Or.inl rfl)) rfl) pa_nil)), s_tp2 h⟩⟩⟩)
      (fun H R h => ⟨v1, rfl, ⟨v2, rfl, ⟨(show 2 ≤ sizeLine by decide), fun p hp np => h p _ (ex_new hp) upd_same np⟩⟩⟩) (fun H R h => h) fun a26 H26 e26 t26 r26 => ?_
    refine s_rowP (Lm := Lm P w K mg base) (cs := cs) hLm ⟨20, flF ["worker", "at", "begun", "ended"] [v1, v2, .int 3, .int 9], ["worker", "at", "begun"], [v1, v2, .int 3], .bl true⟩ t26 (fun H R h => mkP [v1, v2, .int 3, .int 9] (fun R' h => ⟨v1, rfl, ⟨v2, rfl, h⟩⟩) rfl h) (fun H R t h => s_lamF t fun f c' H1 hf e1 t1 l1 k1 => h f H1 e1 t1 ⟨"_law_told", _, _, _, _, c', l1, k1, ⟨by intros; rfl, ⟨rfl, rfl, rfl, by decide, rfl, by decide +kernel, by decide +kernel⟩, fun A outer s H E f c' v Q hr h => ⟨_, pe_lstN (pa_cons (KX.fld (K := K) rfl (pe_var (i := 0) rfl (Or.inl rfl)) rfl) (pa_cons (KX.fld (K := K) rfl (pe_var (i := 0) rfl (Or.inl rfl)) rfl) (pa_cons (KX.fld (K := K) rfl (pe_var (i := 0) rfl (Or.inl rfl)) rfl) pa_nil))), s_tp3 h⟩⟩⟩)
      (fun H R h => ⟨v1, rfl, ⟨v2, rfl, ⟨(show 3 ≤ sizeLine by decide), fun p hp np => h p _ (ex_new hp) upd_same np⟩⟩⟩) (fun H R h => h) fun a27 H27 e27 t27 r27 => ?_
    refine s_rowP (Lm := Lm P w K mg base) (cs := cs) hLm ⟨20, flF ["worker", "at", "begun", "ended"] [.int 1, .int 3, v2, v1], ["ended", "begun"], [v1, v2], .int 1⟩ t27 (fun H R h => mkPK [.int 1, .int 3, v2, v1] (fun R' hR => ⟨v1, rfl, ⟨v2, rfl, hR [] [v1, v2, .int 3, .int 1] rfl rfl fun a => rfl⟩⟩) rfl h) (fun H R t h => s_lamF t fun f c' H1 hf e1 t1 l1 k1 => h f H1 e1 t1 ⟨"_law_told", _, _, _, _, c', l1, k1, ⟨by intros; rfl, ⟨rfl, rfl, rfl, by decide, rfl, by decide +kernel, by decide +kernel⟩, fun A outer s H E f c' v Q hr h => ⟨_, pe_lstN (pa_cons (KX.fld (K := K) rfl (pe_var (i := 0) rfl (Or.inl rfl)) rfl) (pa_cons (KX.fld (K := K) rfl (pe_var (i := 0) rfl (Or.inl rfl)) rfl) pa_nil)), s_tp2 h⟩⟩⟩)
      (fun H R h => ⟨v1, rfl, ⟨v2, rfl, ⟨(show 2 ≤ sizeLine by decide), fun p hp np => h p _ (ex_new hp) upd_same np⟩⟩⟩) (fun H R h => h) fun a28 H28 e28 t28 r28 => ?_
    refine s_rowP (Lm := Lm P w K mg base) (cs := cs) hLm ⟨26, flF ["loop", "worker", "many", "begun", "ended"] [v1, v2, .int 3, .int 8, .int 9], ["loop", "worker", "many"], [v1, v2, .int 3], .int 1⟩ t28 (fun H R h => mkP [v1, v2, .int 3, .int 8, .int 9] (fun R' h => ⟨v1, rfl, ⟨v2, rfl, h⟩⟩) rfl h) (fun H R t h => s_lamF t fun f c' H1 hf e1 t1 l1 k1 => h f H1 e1 t1 ⟨"_law_told", _, _, _, _, c', l1, k1, ⟨by intros; rfl, ⟨rfl, rfl, rfl, by decide, rfl, by decide +kernel, by decide +kernel⟩, fun A outer s H E f c' v Q hr h => ⟨_, pe_lstN (pa_cons (KX.fld (K := K) rfl (pe_var (i := 0) rfl (Or.inl rfl)) rfl) (pa_cons (KX.fld (K := K) rfl (pe_var (i := 0) rfl (Or.inl rfl)) rfl) (pa_cons (KX.fld (K := K) rfl (pe_var (i := 0) rfl (Or.inl rfl)) rfl) pa_nil))), s_tp3 h⟩⟩⟩)
      (fun H R h => ⟨v1, rfl, ⟨v2, rfl, ⟨(show 3 ≤ sizeLine by decide), fun p hp np => h p _ (ex_new hp) upd_same np⟩⟩⟩) (fun H R h => h) fun a29 H29 e29 t29 r29 => ?_
    refine s_rowP (Lm := Lm P w K mg base) (cs := cs) hLm ⟨26, flF ["loop", "worker", "many", "begun", "ended"] [.int 1, .int 2, .int 3, v2, v1], ["begun", "ended"], [v2, v1], .bl true⟩ t29 (fun H R h => mkPK [.int 1, .int 2, .int 3, v2, v1] (fun R' hR => ⟨v1, rfl, ⟨v2, rfl, hR [.int 1, .int 2, .int 3] [v1, v2] rfl rfl fun a => rfl⟩⟩) rfl h) (fun H R t h => s_lamF t fun f c' H1 hf e1 t1 l1 k1 => h f H1 e1 t1 ⟨"_law_told", _, _, _, _, c', l1, k1, ⟨by intros; rfl, ⟨rfl, rfl, rfl, by decide, rfl, by decide +kernel, by decide +kernel⟩, fun A outer s H E f c' v Q hr h => ⟨_, pe_lstN (pa_cons (KX.fld (K := K) rfl (pe_var (i := 0) rfl (Or.inl rfl)) rfl) (pa_cons (KX.fld (K := K) rfl (pe_var (i := 0) rfl (Or.inl rfl)) rfl) pa_nil)), s_tp2 h⟩⟩⟩)
      (fun H R h => ⟨v2, rfl, ⟨v1, rfl, ⟨(show 2 ≤ sizeLine by decide), fun p hp np => h p _ (ex_new hp) upd_same np⟩⟩⟩) (fun H R h => h) fun a30 H30 e30 t30 r30 => ?_
    refine s_nil ?_
    refine s_newN (Nat.le_of_lt (small1000 (by simp))) fun l H' hl nl e' h' => ?_
    have E30 : ExtN H30 H' := e'.n
    have E29 := e30.trans E30
    have E28 := e29.trans E29
    have E27 := e28.trans E28
    have E26 := e27.trans E27
    have E25 := e26.trans E26
    have E24 := e25.trans E25
    have E23 := e24.trans E24
    have E22 := e23.trans E23
    have E21 := e22.trans E22
    have E20 := e21.trans E21
    have E19 := e20.trans E20
    have E18 := e19.trans E19
    have E17 := e18.trans E18
    have E16 := e17.trans E17
    have E15 := e16.trans E16
    have E14 := e15.trans E15
    have E13 := e14.trans E14
    have E12 := e13.trans E13
    have E11 := e12.trans E12
    have E10 := e11.trans E11
    have E9 := e10.trans E10
    have E8 := e9.trans E9
    have E7 := e8.trans E8
    have E6 := e7.trans E7
    have E5 := e6.trans E6
    have E4 := e5.trans E5
    have E3 := e4.trans E4
    have E2 := e3.trans E3
    have E1 := e2.trans E2
    have E0 := e1.trans E1
    exact k l H' _ E0 (t30.ext e') h' (.cons (r1.exN hLm E1) (.cons (r2.exN hLm E2) (.cons (r3.exN hLm E3) (.cons (r4.exN hLm E4) (.cons (r5.exN hLm E5) (.cons (r6.exN hLm E6) (.cons (r7.exN hLm E7) (.cons (r8.exN hLm E8) (.cons (r9.exN hLm E9) (.cons (r10.exN hLm E10) (.cons (r11.exN hLm E11) (.cons (r12.exN hLm E12) (.cons (r13.exN hLm E13) (.cons (r14.exN hLm E14) (.cons (r15.exN hLm E15) (.cons (r16.exN hLm E16) (.cons (r17.exN hLm E17) (.cons (r18.exN hLm E18) (.cons (r19.exN hLm E19) (.cons (r20.exN hLm E20) (.cons (r21.exN hLm E21) (.cons (r22.exN hLm E22) (.cons (r23.exN hLm E23) (.cons (r24.exN hLm E24) (.cons (r25.exN hLm E25) (.cons (r26.exN hLm E26) (.cons (r27.exN hLm E27) (.cons (r28.exN hLm E28) (.cons (r29.exN hLm E29) (.cons (r30.exN hLm E30) .nil))))))))))))))))))))))))))))))
end
end K03
end
section
local macro_rules | `(tactic| tm_at "s1") => `(tactic| first
  | with_reducible first
    | refine L3.s_seq ?_ | refine L3.s_asg ?_ | refine L3.s_op ?_ | refine L3.s_c ?_ | refine L3.s_cb ?_ | refine L3.s_cons ?_ | refine L3.s_nil ?_ | refine L3.s_test ?_ | refine L3.s_bl ?_
    | refine L3.s_I0 ?_ | refine L3.s_and ?_ | refine L3.s_or ?_ | refine L3.s_not ?_ | refine L3.s_if ?_ | refine L3.s_next ?_ | refine L3.s_ret ?_ | refine L3.s_retN ?_ | refine L3.s_asgS ?_ | refine L3.s_drop ?_
    | refine L3.s_un ?_ | refine L3.s_U ?_ | refine L3.s_int ?_ | refine L3.s_intB ?_ | refine L3.s_abs ?_ | refine L3.s_andV ?_ | refine L3.s_orV ?_ | refine L3.s_notV ?_ | refine L3.s_ifE ?_ | refine L3.s_call ?_ | refine L3.s_lst ?_ | refine L3.s_tup ?_ | refine L3.s_tB ?_
    | refine L3.s_addI ?_ | refine L3.s_inS ?_ | refine L3.s_ninS ?_ | refine L3.s_slice ?_ | refine L3.s_part ?_ | refine L3.s_partI ?_ | refine L3.s_nopart ?_ | refine L3.s_cI ?_ | refine L3.s_cB ?_ | refine L3.s_chain ?_ | refine L3.s_bm ?_ | refine L3.s_lcS ?_ | refine L3.s_lcR ?_ | refine L3.s_strE ?_
    | refine L2.iteT ?_ | refine L2.iteF ?_ | refine L3.iteNF ?_ | refine L3.iteNT ?_
    | refine L3.s_eqI ?_ | refine L3.s_neI ?_ | refine L3.s_eqS ?_ | refine L3.s_neS ?_
    | refine L3.s_pair ?_ | refine L3.s_pair2 ?_ | refine L3.s_fld ?_ | refine L3.s_make ?_ | refine L3.s_m1 ?_ | refine L3.s_isstr ?_
    | refine L3.s_xfV ?_ | refine L3.s_lstN ?_ | refine L3.s_callF ?_ | refine L3.s_lcL ?_ | refine L3.s_par3 ?_ | refine L3.s_trip ?_ | refine L3.s_asgT' ?_ | refine L3.s_gC ?_ | refine L3.s_gN ?_ | refine L3.s_fldG ?_ | refine L3.s_raise1 ?_
    | refine L3.s_isN ?_ | refine L3.s_isB ?_ | refine L3.s_nisN ?_ | refine L3.s_nisB ?_
  | ((with_reducible refine' L3.s_var ?e ?_); (case e => rfl))
  | ((with_reducible refine' L3.s_aug ?e ?_); (case e => rfl))
  | ((with_reducible refine' L3.s_pow ?c ?_); (case c => exact ⟨by decide, by decide, by decide⟩)))
local macro_rules | `(tactic| tm_at "s") => `(tactic| repeat tm_at "s1")
namespace K03
open PySem PySem.Spec PyProof.Rows L2 L3 LamX
def Fv (v1 v2 v3 x : V) : Prop := x = v1 ∨ x = v2 ∨ x = v3 ∨ ∃ i : Int, 0 ≤ i ∧ i < 10 ∧ x = .int i
theorem fvN {v1 v2 v3 : V} : ∀ x ∈ ([] : List V), Fv v1 v2 v3 x := fun x hx => nomatch hx
theorem fvC {v1 v2 v3 x : V} {r : List V} (h : Fv v1 v2 v3 x) (hr : ∀ y ∈ r, Fv v1 v2 v3 y) : ∀ y ∈ x :: r, Fv v1 v2 v3 y := fun y hy => (List.mem_cons.mp hy).elim (fun e => by rw [e]; exact h) (hr y)
structure GoodR (v1 v2 v3 : V) (r : RowD) : Prop where
  c : r.c < 27
  gl : ∀ g ∈ r.gs, g ∈ flds r.c
  hm : r.gs.map (fun g => r.fs.lookup g) = r.vs.map some
  vs : ∀ x ∈ r.vs, Fv v1 v2 v3 x
  ln : r.vs.length ≤ 3
  ow : r.fs.lookup ("own_row" : Str) = none
  fx : ∃ xs : List V, (flds r.c).map (fun g => r.fs.lookup g) = xs.map some ∧ ∀ x ∈ xs, Fv v1 v2 v3 x
  B : r.B = .bl (!den r.c) ∨ (den r.c = false ∧ r.B = .int 1)
theorem good (v1 v2 v3 : V) : ∀ r ∈ rowT v1 v2 v3, GoodR v1 v2 v3 r := by
  intro r hr
  simp only [rowT, List.mem_cons, List.not_mem_nil, or_false] at hr
  rcases hr with rfl | rfl | rfl | rfl | rfl | rfl | rfl | rfl | rfl | rfl | rfl | rfl | rfl | rfl | rfl | rfl | rfl | rfl | rfl | rfl | rfl | rfl | rfl | rfl | rfl | rfl | rfl | rfl | rfl | rfl
  · exact ⟨(show 0 < 27 by decide), (show ∀ g ∈ (["chunks"] : List Str), g ∈ flds 0 by decide), rfl, (fvC (.inl rfl) fvN), by simp, rfl, ⟨[v1], rfl, (fvC (.inl rfl) fvN)⟩, .inl rfl⟩
  · exact ⟨(show 1 < 27 by decide), (show ∀ g ∈ (["rests"] : List Str), g ∈ flds 1 by decide), rfl, (fvC (.inl rfl) fvN), by simp, rfl, ⟨[v1], rfl, (fvC (.inl rfl) fvN)⟩, .inl rfl⟩
  · exact ⟨(show 2 < 27 by decide), (show ∀ g ∈ (["total", "chunks"] : List Str), g ∈ flds 2 by decide), rfl, (fvC (.inl rfl) (fvC (.inr (.inl rfl)) fvN)), by simp, rfl, ⟨[v1, v2], rfl, (fvC (.inl rfl) (fvC (.inr (.inl rfl)) fvN))⟩, .inl rfl⟩
  · exact ⟨(show 3 < 27 by decide), (show ∀ g ∈ (["limit", "chunks", "below"] : List Str), g ∈ flds 3 by decide), rfl, (fvC (.inl rfl) (fvC (.inr (.inl rfl)) (fvC (.inr (.inr (.inl rfl))) fvN))), by simp, rfl, ⟨[v1, v2, v3], rfl, (fvC (.inl rfl) (fvC (.inr (.inl rfl)) (fvC (.inr (.inr (.inl rfl))) fvN)))⟩, .inl rfl⟩
  · exact ⟨(show 3 < 27 by decide), (show ∀ g ∈ (["limit", "below"] : List Str), g ∈ flds 3 by decide), rfl, (fvC (.inr (.inr (.inl rfl))) (fvC (.inl rfl) fvN)), by simp, rfl, ⟨[v3, v2, v1], rfl, (fvC (.inr (.inr (.inl rfl))) (fvC (.inr (.inl rfl)) (fvC (.inl rfl) fvN)))⟩, .inl rfl⟩
  · exact ⟨(show 19 < 27 by decide), (show ∀ g ∈ (["late", "at", "world"] : List Str), g ∈ flds 19 by decide), rfl, (fvC (.inl rfl) (fvC (.inr (.inl rfl)) (fvC (.inr (.inr (.inl rfl))) fvN))), by simp, rfl, ⟨[v1, v2, v3], rfl, (fvC (.inl rfl) (fvC (.inr (.inl rfl)) (fvC (.inr (.inr (.inl rfl))) fvN)))⟩, .inl rfl⟩
  · exact ⟨(show 15 < 27 by decide), (show ∀ g ∈ (["late", "rest"] : List Str), g ∈ flds 15 by decide), rfl, (fvC (.inr (.inl rfl)) (fvC (.inl rfl) fvN)), by simp, rfl, ⟨[v2, v1], rfl, (fvC (.inr (.inl rfl)) (fvC (.inl rfl) fvN))⟩, .inl rfl⟩
  · exact ⟨(show 16 < 27 by decide), (show ∀ g ∈ (["residue", "begin"] : List Str), g ∈ flds 16 by decide), rfl, (fvC (.inl rfl) (fvC (.inr (.inl rfl)) fvN)), by simp, rfl, ⟨[v1, v2], rfl, (fvC (.inl rfl) (fvC (.inr (.inl rfl)) fvN))⟩, .inl rfl⟩
  · exact ⟨(show 17 < 27 by decide), (show ∀ g ∈ (["table"] : List Str), g ∈ flds 17 by decide), rfl, (fvC (.inl rfl) fvN), by simp, rfl, ⟨[v1], rfl, (fvC (.inl rfl) fvN)⟩, .inl rfl⟩
  · exact ⟨(show 18 < 27 by decide), (show ∀ g ∈ (["rest", "late"] : List Str), g ∈ flds 18 by decide), rfl, (fvC (.inl rfl) (fvC (.inr (.inl rfl)) fvN)), by simp, rfl, ⟨[v1, v2], rfl, (fvC (.inl rfl) (fvC (.inr (.inl rfl)) fvN))⟩, .inl rfl⟩
  · exact ⟨(show 6 < 27 by decide), (show ∀ g ∈ (["begins"] : List Str), g ∈ flds 6 by decide), rfl, (fvC (.inl rfl) fvN), by simp, rfl, ⟨[v1], rfl, (fvC (.inl rfl) fvN)⟩, .inl rfl⟩
  · exact ⟨(show 8 < 27 by decide), (show ∀ g ∈ (["begins"] : List Str), g ∈ flds 8 by decide), rfl, (fvC (.inl rfl) fvN), by simp, rfl, ⟨[v1], rfl, (fvC (.inl rfl) fvN)⟩, .inl rfl⟩
  · exact ⟨(show 10 < 27 by decide), (show ∀ g ∈ (["first", "last"] : List Str), g ∈ flds 10 by decide), rfl, (fvC (.inl rfl) (fvC (.inr (.inl rfl)) fvN)), by simp, rfl, ⟨[v1, v2], rfl, (fvC (.inl rfl) (fvC (.inr (.inl rfl)) fvN))⟩, .inl rfl⟩
  · exact ⟨(show 12 < 27 by decide), (show ∀ g ∈ (["never", "steady"] : List Str), g ∈ flds 12 by decide), rfl, (fvC (.inr (.inl rfl)) (fvC (.inl rfl) fvN)), by simp, rfl, ⟨[v2, v1], rfl, (fvC (.inr (.inl rfl)) (fvC (.inl rfl) fvN))⟩, .inl rfl⟩
  · exact ⟨(show 7 < 27 by decide), (show ∀ g ∈ (["rest"] : List Str), g ∈ flds 7 by decide), rfl, (fvC (.inl rfl) fvN), by simp, rfl, ⟨[v1], rfl, (fvC (.inl rfl) fvN)⟩, .inl rfl⟩
  · exact ⟨(show 9 < 27 by decide), (show ∀ g ∈ (["rest"] : List Str), g ∈ flds 9 by decide), rfl, (fvC (.inl rfl) fvN), by simp, rfl, ⟨[v1], rfl, (fvC (.inl rfl) fvN)⟩, .inl rfl⟩
  · exact ⟨(show 11 < 27 by decide), (show ∀ g ∈ (["rest"] : List Str), g ∈ flds 11 by decide), rfl, (fvC (.inl rfl) fvN), by simp, rfl, ⟨[v1], rfl, (fvC (.inl rfl) fvN)⟩, .inl rfl⟩
  · exact ⟨(show 13 < 27 by decide), (show ∀ g ∈ (["total", "counts"] : List Str), g ∈ flds 13 by decide), rfl, (fvC (.inl rfl) (fvC (.inr (.inl rfl)) fvN)), by simp, rfl, ⟨[v1, v2], rfl, (fvC (.inl rfl) (fvC (.inr (.inl rfl)) fvN))⟩, .inl rfl⟩
  · exact ⟨(show 14 < 27 by decide), (show ∀ g ∈ (["upto"] : List Str), g ∈ flds 14 by decide), rfl, (fvC (.inl rfl) fvN), by simp, rfl, ⟨[v1], rfl, (fvC (.inl rfl) fvN)⟩, .inl rfl⟩
  · exact ⟨(show 4 < 27 by decide), (show ∀ g ∈ (["late", "rest", "spot"] : List Str), g ∈ flds 4 by decide), rfl, (fvC (.inl rfl) (fvC (.inr (.inl rfl)) (fvC (.inr (.inr (.inr ⟨3, by decide, by decide, rfl⟩))) fvN))), by simp, rfl, ⟨[v1, v2, .int 3], rfl, (fvC (.inl rfl) (fvC (.inr (.inl rfl)) (fvC (.inr (.inr (.inr ⟨3, by decide, by decide, rfl⟩))) fvN)))⟩, .inl rfl⟩
  · exact ⟨(show 5 < 27 by decide), (show ∀ g ∈ (["spot", "rise"] : List Str), g ∈ flds 5 by decide), rfl, (fvC (.inl rfl) (fvC (.inr (.inl rfl)) fvN)), by simp, rfl, ⟨[v1, v2], rfl, (fvC (.inl rfl) (fvC (.inr (.inl rfl)) fvN))⟩, .inl rfl⟩
  · exact ⟨(show 25 < 27 by decide), (show ∀ g ∈ (["names", "late", "last"] : List Str), g ∈ flds 25 by decide), rfl, (fvC (.inl rfl) (fvC (.inr (.inl rfl)) (fvC (.inr (.inr (.inr ⟨3, by decide, by decide, rfl⟩))) fvN))), by simp, rfl, ⟨[v1, v2, .int 3], rfl, (fvC (.inl rfl) (fvC (.inr (.inl rfl)) (fvC (.inr (.inr (.inr ⟨3, by decide, by decide, rfl⟩))) fvN)))⟩, .inl rfl⟩
  · exact ⟨(show 21 < 27 by decide), (show ∀ g ∈ (["world"] : List Str), g ∈ flds 21 by decide), rfl, (fvC (.inl rfl) fvN), by simp, rfl, ⟨[v1], rfl, (fvC (.inl rfl) fvN)⟩, .inl rfl⟩
  · exact ⟨(show 22 < 27 by decide), (show ∀ g ∈ (["at", "why"] : List Str), g ∈ flds 22 by decide), rfl, (fvC (.inl rfl) (fvC (.inr (.inl rfl)) fvN)), by simp, rfl, ⟨[v1, v2], rfl, (fvC (.inl rfl) (fvC (.inr (.inl rfl)) fvN))⟩, .inl rfl⟩
  · exact ⟨(show 23 < 27 by decide), (show ∀ g ∈ (["workers"] : List Str), g ∈ flds 23 by decide), rfl, (fvC (.inl rfl) fvN), by simp, rfl, ⟨[v1], rfl, (fvC (.inl rfl) fvN)⟩, .inl rfl⟩
  · exact ⟨(show 24 < 27 by decide), (show ∀ g ∈ (["least", "most"] : List Str), g ∈ flds 24 by decide), rfl, (fvC (.inl rfl) (fvC (.inr (.inl rfl)) fvN)), by simp, rfl, ⟨[v1, v2], rfl, (fvC (.inl rfl) (fvC (.inr (.inl rfl)) fvN))⟩, .inl rfl⟩
  · exact ⟨(show 20 < 27 by decide), (show ∀ g ∈ (["worker", "at", "begun"] : List Str), g ∈ flds 20 by decide), rfl, (fvC (.inl rfl) (fvC (.inr (.inl rfl)) (fvC (.inr (.inr (.inr ⟨3, by decide, by decide, rfl⟩))) fvN))), by simp, rfl, ⟨[v1, v2, .int 3, .int 9], rfl, (fvC (.inl rfl) (fvC (.inr (.inl rfl)) (fvC (.inr (.inr (.inr ⟨3, by decide, by decide, rfl⟩))) (fvC (.inr (.inr (.inr ⟨9, by decide, by decide, rfl⟩))) fvN))))⟩, .inl rfl⟩
  · exact ⟨(show 20 < 27 by decide), (show ∀ g ∈ (["ended", "begun"] : List Str), g ∈ flds 20 by decide), rfl, (fvC (.inl rfl) (fvC (.inr (.inl rfl)) fvN)), by simp, rfl, ⟨[.int 1, .int 3, v2, v1], rfl, (fvC (.inr (.inr (.inr ⟨1, by decide, by decide, rfl⟩))) (fvC (.inr (.inr (.inr ⟨3, by decide, by decide, rfl⟩))) (fvC (.inr (.inl rfl)) (fvC (.inl rfl) fvN))))⟩, .inr ⟨rfl, rfl⟩⟩
  · exact ⟨(show 26 < 27 by decide), (show ∀ g ∈ (["loop", "worker", "many"] : List Str), g ∈ flds 26 by decide), rfl, (fvC (.inl rfl) (fvC (.inr (.inl rfl)) (fvC (.inr (.inr (.inr ⟨3, by decide, by decide, rfl⟩))) fvN))), by simp, rfl, ⟨[v1, v2, .int 3, .int 8, .int 9], rfl, (fvC (.inl rfl) (fvC (.inr (.inl rfl)) (fvC (.inr (.inr (.inr ⟨3, by decide, by decide, rfl⟩))) (fvC (.inr (.inr (.inr ⟨8, by decide, by decide, rfl⟩))) (fvC (.inr (.inr (.inr ⟨9, by decide, by decide, rfl⟩))) fvN)))))⟩, .inr ⟨rfl, rfl⟩⟩
  · exact ⟨(show 26 < 27 by decide), (show ∀ g ∈ (["begun", "ended"] : List Str), g ∈ flds 26 by decide), rfl, (fvC (.inr (.inl rfl)) (fvC (.inl rfl) fvN)), by simp, rfl, ⟨[.int 1, .int 2, .int 3, v2, v1], rfl, (fvC (.inr (.inr (.inr ⟨1, by decide, by decide, rfl⟩))) (fvC (.inr (.inr (.inr ⟨2, by decide, by decide, rfl⟩))) (fvC (.inr (.inr (.inr ⟨3, by decide, by decide, rfl⟩))) (fvC (.inr (.inl rfl)) (fvC (.inl rfl) fvN)))))⟩, .inl rfl⟩
def clsT : List Nat := [0, 1, 2, 3, 3, 19, 15, 16, 17, 18, 6, 8, 10, 12, 7, 9, 11, 13, 14, 4, 5, 25, 21, 22, 23, 24, 20, 20, 26, 26]
theorem cls_of (v1 v2 v3 : V) : (rowT v1 v2 v3).map (·.c) = clsT := rfl
theorem cls_ne : ∀ i, i < 29 → i ≠ 3 → i ≠ 26 → i ≠ 28 → clsT.getD i 0 ≠ clsT.getD (i + 1) 0 := by decide
end K03
end
section
local macro_rules | `(tactic| tm_at "s1") => `(tactic| first
  | with_reducible first
    | refine L3.s_seq ?_ | refine L3.s_asg ?_ | refine L3.s_op ?_ | refine L3.s_c ?_ | refine L3.s_cb ?_ | refine L3.s_cons ?_ | refine L3.s_nil ?_ | refine L3.s_test ?_ | refine L3.s_bl ?_
    | refine L3.s_I0 ?_ | refine L3.s_and ?_ | refine L3.s_or ?_ | refine L3.s_not ?_ | refine L3.s_if ?_ | refine L3.s_next ?_ | refine L3.s_ret ?_ | refine L3.s_retN ?_ | refine L3.s_asgS ?_ | refine L3.s_drop ?_
    | refine L3.s_un ?_ | refine L3.s_U ?_ | refine L3.s_int ?_ | refine L3.s_intB ?_ | refine L3.s_abs ?_ | refine L3.s_andV ?_ | refine L3.s_orV ?_ | refine L3.s_notV ?_ | refine L3.s_ifE ?_ | refine L3.s_call ?_ | refine L3.s_lst ?_ | refine L3.s_tup ?_ | refine L3.s_tB ?_
    | refine L3.s_addI ?_ | refine L3.s_inS ?_ | refine L3.s_ninS ?_ | refine L3.s_slice ?_ | refine L3.s_part ?_ | refine L3.s_partI ?_ | refine L3.s_nopart ?_ | refine L3.s_cI ?_ | refine L3.s_cB ?_ | refine L3.s_chain ?_ | refine L3.s_bm ?_ | refine L3.s_lcS ?_ | refine L3.s_lcR ?_ | refine L3.s_strE ?_
    | refine L2.iteT ?_ | refine L2.iteF ?_ | refine L3.iteNF ?_ | refine L3.iteNT ?_
    | refine L3.s_eqI ?_ | refine L3.s_neI ?_ | refine L3.s_eqS ?_ | refine L3.s_neS ?_
    | refine L3.s_pair ?_ | refine L3.s_pair2 ?_ | refine L3.s_fld ?_ | refine L3.s_make ?_ | refine L3.s_m1 ?_ | refine L3.s_isstr ?_
    | refine L3.s_xfV ?_ | refine L3.s_lstN ?_ | refine L3.s_callF ?_ | refine L3.s_lcL ?_ | refine L3.s_par3 ?_ | refine L3.s_trip ?_ | refine L3.s_asgT' ?_ | refine L3.s_gC ?_ | refine L3.s_gN ?_ | refine L3.s_fldG ?_ | refine L3.s_raise1 ?_
    | refine L3.s_isN ?_ | refine L3.s_isB ?_ | refine L3.s_nisN ?_ | refine L3.s_nisB ?_
  | ((with_reducible refine' L3.s_var ?e ?_); (case e => rfl))
  | ((with_reducible refine' L3.s_aug ?e ?_); (case e => rfl))
  | ((with_reducible refine' L3.s_pow ?c ?_); (case c => exact ⟨by decide, by decide, by decide⟩)))
local macro_rules | `(tactic| tm_at "s") => `(tactic| repeat tm_at "s1")
namespace K03
open PySem PySem.Spec PyProof.Rows L2 L3 LamX
abbrev s_law : Stmt := topS 45
abbrev names_law : List Str := ["_law_script", "_law_pen_here", "_law_lap", "_law_first", "_law_second", "_law_third", "_law_made_here", "_law_again", "_law_k", "_law_paper_so", "_law_tell", "_law_due", "_law_is_true", "_law_twins", "_law_told_so", "_law_pair"]
theorem sc_law : FnScope ["_law_script", "_law_pen_here", "_law_lap", "_law_first", "_law_second", "_law_third", "_law_made_here", "_law_again", "_law_k", "_law_paper_so", "_law_tell", "_law_due", "_law_is_true", "_law_twins", "_law_told_so", "_law_pair"] ["_law_script"] (defScope s_law) := ⟨rfl, rfl, rfl, by decide +kernel, rfl, by decide +kernel, by decide +kernel⟩
section
variable {P : Program} {w : World} {K : PySem.W.Frag} {mg : Str → Option Value} {base : Heap} {cs : List Addr} {CP CD fb : Addr}
def spLaw (K : PySem.W.Frag) (TT : List (Addr × Str)) : Sp := fun vs H Q _ => ∃ a ns, vs = [.ref a] ∧ SqL K H a (ns.map V.int) ∧ (ns : List Int).length ≤ 63 ∧ Tabs TT H ∧ ∀ H', Q (.bl true) H'
theorem paired_get {R : V → RowD → Prop} {xs : List V} {ys : List RowD} (h : Paired R xs ys) : ∀ i, i < ys.length → ∃ x y, xs[i]? = some x ∧ ys[i]? = some y ∧ R x y := by
  induction h with
  | nil => intro i hi; simp at hi
  | cons a _ ih =>
    intro i hi
    cases i with
    | zero => exact ⟨_, _, rfl, rfl, a⟩
    | succ i => exact ih i (by simpa using hi)
theorem vok_int {i : Int} (h0 : 0 ≤ i) (h1 : i < 10) : VOk (.int i) := by
  obtain rfl | rfl | rfl | rfl | rfl | rfl | rfl | rfl | rfl | rfl : i = 0 ∨ i = 1 ∨ i = 2 ∨ i = 3 ∨ i = 4 ∨ i = 5 ∨ i = 6 ∨ i = 7 ∨ i = 8 ∨ i = 9 := by omega
  all_goals exact vok (by decide +kernel)
theorem vd3 {H : Hp} {v1 v2 v3 : V} {d1 d2 d3 : PyData} (h1 : Vd H v1 d1) (h2 : Vd H v2 d2) (h3 : Vd H v3 d3) (o1 : VOk d1) (o2 : VOk d2) (o3 : VOk d3) : ∀ {vs : List V}, (∀ x ∈ vs, Fv v1 v2 v3 x) → ∃ ds, VdAll H vs ds ∧ ds.length = vs.length ∧ ∀ d ∈ ds, VOk d
  | [], _ => ⟨[], .nil, rfl, fun _ h => nomatch h⟩
  | x :: r, h => by
    obtain ⟨ds, a, b, c⟩ := vd3 h1 h2 h3 o1 o2 o3 fun y hy => h y (List.mem_cons_of_mem _ hy)
    have go : ∀ {d}, Vd H x d → VOk d → ∃ ds, VdAll H (x :: r) ds ∧ ds.length = (x :: r).length ∧ ∀ d ∈ ds, VOk d := fun {d} hd ho => ⟨d :: ds, .cons hd a, by simp [b], fun e he => (List.mem_cons.mp he).elim (fun z => by rw [z]; exact ho) (c e)⟩
    rcases h x List.mem_cons_self with rfl | rfl | rfl | ⟨i, i0, i1, rfl⟩
    · exact go h1 o1
    · exact go h2 o2
    · exact go h3 o3
    · exact go (.int i) (vok_int i0 i1)
theorem pqFv {H : Hp} {v1 v2 v3 x : V} {d1 d2 d3 : PyData} (h1 : Vd H v1 d1) (h2 : Vd H v2 d2) (h3 : Vd H v3 d3) (o1 : VSh d1) (o2 : VSh d2) (o3 : VSh d3) (h : Fv v1 v2 v3 x) : Pq K H x x true := by
  rcases h with rfl | rfl | rfl | ⟨i, _, _, rfl⟩
  · exact h1.pq o1
  · exact h2.pq o2
  · exact h3.pq o3
  · have := pqInt (K := K) (H := H) i i
    rw [decide_eq_true rfl] at this
    exact this
theorem pqB {H : Hp} {b : Bool} {B : V} (h : B = .bl b ∨ (b = true ∧ B = .int 1)) : Pq K H (.bl b) B true := by
  rcases h with rfl | ⟨rfl, rfl⟩
  · have := Pq.dat (K := K) (H := H) (.bl b) (.bl b) rfl rfl
    rw [SeqAt.eqv_refl _ rfl] at this
    exact this
  · exact Pq.dat (.bl true) (.int 1) rfl rfl
theorem pqN {H : Hp} {b : Bool} {B : V} (h : B = .bl b ∨ (b = true ∧ B = .int 1)) : Pq K H (.bl (!b)) B false := by
  rcases h with rfl | ⟨rfl, rfl⟩
  · cases b
    · exact Pq.dat (.bl true) (.bl false) rfl rfl
    · exact Pq.dat (.bl false) (.bl true) rfl rfl
  · exact Pq.dat (.bl false) (.int 1) rfl rfl
/-- [x for x in xs if t] -/
theorem lcFL {σ : L2.St} {H : Hp} {Q : VK} {te : TE} {a : Addr} {xs : List V} {j : Nat} {tt : TT} {vs : List Nat} (b : Nat → Bool) (ha : H a = some (.lst xs)) (hz : xs.length < sizeLine) (hw : ∀ x, wipe ((wipe σ vs).set j (some x)) vs = wipe σ vs)
    (ht : ∀ (i : Nat) (x : V) (H1 : Hp) (R : Bool → Hp → Prop), xs[i]? = some x → Ex H H1 → R (b i) H1 → tt ((wipe σ vs).set j (some x)) H1 R) (he : ∀ (x : V) (H1 : Hp) (R : VK), R x H1 → te ((wipe σ vs).set j (some x)) H1 R)
    (k : ∀ D H2, H D = none → Ex H H2 → H2 D = some (.lst (((List.range xs.length).filter b).map fun i => xs.getD i .non)) → Q (.ref D) H2) : LC (Itl K a) (gName j) tt te vs σ H Q := by
  intro D hD
  refine lc_list (K := K) (a := a) (xs := xs) (fun n H1 => Ex H H1 ∧ H1 D = some (.lst (((List.range n).filter b).map fun i => xs.getD i .non))) ⟨ex_new hD, upd_same⟩ (fun n H1 _ ⟨e, _⟩ => .inl (.inl (e _ _ ha))) (fun n x H1 hx ⟨e, h1⟩ => ?_) (fun H1 ⟨e, h1⟩ => k D H1 hD e h1)
  have hn : n < xs.length := (List.getElem?_eq_some_iff.mp hx).1
  have er : List.range (n + 1) = List.range n ++ [n] := List.range_succ
  have eg : xs.getD n .non = x := by simp [List.getD, hx]
  refine ⟨hw _, ht n x H1 _ hx e ?_⟩
  cases hb : b n with
  | true =>
    refine iteT (he x H1 _ ⟨_, h1, ?_, fun c o hc => ?_, ?_⟩)
    · rw [List.length_map]
      exact Nat.lt_of_le_of_lt (Nat.le_trans (List.length_filter_le _ _) (by rw [List.length_range]; omega)) hz
    · rw [upd_ne (ne_of_none hc hD)]; exact e _ _ hc
    · rw [upd_same, er, List.filter_append, List.map_append]
      simp [hb, hx]
  | false =>
    refine iteF ⟨e, ?_⟩
    rw [er, List.filter_append]
    simpa [hb] using h1
theorem s_mkP {C : Addr} {ns : List Str} {xs : List V} {H : Hp} {R : VK} {E : XK} (hl : xs.length = ns.length) (h : ∀ q H', H q = none → Ex H H' → PaAt H' q C (flF ns xs) → R (.ref q) H') : ∀ p dx, H p = none → H dx = none → dx ≠ p → spInit C ns (.ref p :: (xs ++ [])) (upd (upd H dx (.own p)) p (.ins C dx [])) (fun v H2 => v = .non ∧ ap R (.ref p) H2) E :=
  fun p dx hp hd hn => ⟨p, dx, xs, by rw [List.append_nil], hl, upd_same, fun H' hk h1 => ⟨rfl, h p H' hp (fun c o e => hk c o (ne_of_none e hp) (by rw [upd_ne (ne_of_none e hp), upd_ne (ne_of_none e hd)]; exact e)) ⟨dx, h1⟩⟩⟩
theorem s_eqPa {j : Nat} {p q : Addr} {fs fs' : List (Str × V)} {xs ys : List V} {bs : List Bool} {ns : List Str} {H : Hp} {Q : VK} {E : XK} {sp : Nat → Sp} (hsp : sp j = spEqC K (cs.getD j 0) ns) (hj : j < cs.length) (h1 : PaAt H p (cs.getD j 0) fs) (h2 : PaAt H q (cs.getD j 0) fs') (no1 : fs.lookup ("own_row" : Str) = none) (no2 : fs'.lookup ("own_row" : Str) = none)
    (m1 : ns.map (fun n => fs.lookup n) = xs.map some) (m2 : ns.map (fun n => fs'.lookup n) = ys.map some) (pq : PqAll K H xs ys bs) (k : ∀ H', Ex H H' → Q (.bl (bs.all id)) H') : rOwnL K cs sp E (.ref p) (.ref q) H Q := by
  obtain ⟨dx, g1⟩ := id h1
  obtain ⟨dx', g2⟩ := id h2
  exact ⟨j, hj, p, dx, _, rfl, g1, .inl (.inl (.inl ⟨q, dx', _, rfl, g2⟩)), by rw [hsp]; exact ⟨p, .ref q, fs, rfl, h1, .inl ⟨q, fs', xs, ys, bs, rfl, h2, no1, no2, m1, m2, pq, k⟩⟩⟩
theorem s_nePa {C : Addr} {p q : Addr} {fs fs' : List (Str × V)} {xs ys : List V} {bs : List Bool} {ns : List Str} {H : Hp} {Q : VK} {E : XK} (h1 : PaAt H p C fs) (h2 : PaAt H q C fs') (no1 : fs.lookup ("own_row" : Str) = none) (no2 : fs'.lookup ("own_row" : Str) = none)
    (m1 : ns.map (fun n => fs.lookup n) = xs.map some) (m2 : ns.map (fun n => fs'.lookup n) = ys.map some) (pq : PqAll K H xs ys bs) (k : ∀ H', Ex H H' → Q (.bl (!(bs.all id))) H') : rNeQ (rOwn C (spEqC K C ns) E) (.ref p) (.ref q) H Q := by
  obtain ⟨dx, g1⟩ := id h1
  obtain ⟨dx', g2⟩ := id h2
  exact ⟨p, dx, _, rfl, g1, .inl ⟨q, dx', _, rfl, g2⟩, p, .ref q, fs, rfl, h1, .inl ⟨q, fs', xs, ys, bs, rfl, h2, no1, no2, m1, m2, pq, fun H' e => ⟨_, rfl, k H' e⟩⟩⟩
theorem ok_law {f : Addr} {fd fdb : FuncData} {Tt : List (Addr × Str)} (F : Fun K "law" "law" s_law f fd) (T : Txt K mg cs CP CD fb) (c__law_pen : Fn P w K mg base CX0 1 "_law_pen" ["_law_script"] (spPen K))
    (c__law_value : Fn P w K mg base CX0 3 "_law_value" ["_law_pen_here"] (spValue Tt)) (c__law_made : Fn P w K mg base CX0 4 "_law_made" ["_law_first", "_law_second", "_law_third"] (spMade P w K mg base cs Tt))
    (hfb : PySem.W.isFn K (.ref fb) = true) (Gb : FnOk P w K mg base CX0 1 fb fdb ["self"] spNo) (bb : L2.Binds K fdb ["self"] [])
    (BE' : ∀ j, j < 27 → Me P w K mg base (cs.getD j 0) "__eq__" 2 ["self", "other"] (spEqC K (cs.getD j 0) (flds j)))
    (m_Fewest_1 : McO P w K mg base (L2.CX P w) 1 "Fewest" (cs.getD 0 0) ["self", "chunks"] (spInit (cs.getD 0 0) ["chunks"]) []) (m_NoList_1 : McO P w K mg base (L2.CX P w) 1 "NoList" (cs.getD 1 0) ["self", "rests"] (spInit (cs.getD 1 0) ["rests"]) []) (m_Least_3 : McO P w K mg base (L2.CX P w) 1 "Least" (cs.getD 3 0) ["self", "limit", "chunks", "below"] (spInit (cs.getD 3 0) ["limit", "chunks", "below"]) [])
    (m_Bound_2 : McO P w K mg base (L2.CX P w) 1 "Bound" (cs.getD 15 0) ["self", "late", "rest"] (spInit (cs.getD 15 0) ["late", "rest"]) []) (m_Beyond_2 : McO P w K mg base (L2.CX P w) 1 "Beyond" (cs.getD 18 0) ["self", "rest", "late"] (spInit (cs.getD 18 0) ["rest", "late"]) []) (m_Taking_4 : McO P w K mg base (L2.CX P w) 1 "Taking" (cs.getD 20 0) ["self", "worker", "at", "begun", "ended"] (spInit (cs.getD 20 0) ["worker", "at", "begun", "ended"]) []) :
    FnG P w K mg base CX0 6 f fd ["_law_script"] (spLaw K Tt) := by
  have FE : ∀ j, j < cs.length → CmpF K (cs.getD j 0) := fun j hj => T.cmp j (by rw [← T.len]; exact hj)
  have BE : ∀ j, j < cs.length → Me P w K mg base (cs.getD j 0) "__eq__" 2 ["self", "other"] ((fun j => spEqC K (cs.getD j 0) (flds j)) j) := fun j hj => BE' j (by rw [← T.len]; exact hj)
  refine funG F sc_law (fun vs H Q E h => ?_) (fun cd A fr s H vs Q E hr hg h => ?_)
  · obtain ⟨x, a, rfl, _⟩ := h; rfl
  · obtain ⟨a, ns, rfl, hs, hns, ht, k⟩ := h
    refine ⟨_, (pss_cons (ps_set (i := 1) sc_law.nd rfl (Or.inl rfl) (pe_f c__law_pen hr hg pass0 (pa_cons (pv 0) pa_nil)))
      (pss_cons (ps_for (passes_of rfl) rfl (pi_range1 (by rfl) T.b_range (pa_cons pe_int pa_nil)) (pg_name (i := 2) sc_law.nd rfl (Or.inl rfl)) (pss_cons (ps_par3 (by rfl) sc_law.nd (i := 3) (j := 4) (l := 5) rfl rfl rfl (by decide) (by decide) (by decide) rfl rfl rfl (pa_cons (pe_f c__law_value hr hg pass0 (pa_cons (pv 1) pa_nil)) (pa_cons (pe_f c__law_value hr hg pass0 (pa_cons (pv 1) pa_nil)) (pa_cons (pe_f c__law_value hr hg pass0 (pa_cons (pv 1) pa_nil)) pa_nil))) (by rfl))
      (pss_cons (ps_par (by rfl) sc_law.nd (i := 6) (j := 7) rfl rfl (by decide) rfl rfl (pa_cons (pe_f c__law_made hr hg pass0 (pa_cons (pv 3) (pa_cons (pv 4) (pa_cons (pv 5) pa_nil)))) (pa_cons (pe_f c__law_made hr hg pass0 (pa_cons (pv 3) (pa_cons (pv 4) (pa_cons (pv 5) pa_nil)))) pa_nil)) (by rfl))
      (pss_cons (ps_for (passes_of rfl) rfl (pi_range1 (by rfl) T.b_range (pa_cons (pe_callB (KX.callLen (K := K)) (by rfl) T.b_len (by decide +kernel) (pa_cons (pv 6) pa_nil)) pa_nil)) (pg_name (i := 8) sc_law.nd rfl (Or.inr rfl)) (pss_cons (ps_asg (pe_ix (KX.ixU (K := K)) (pv 6) (pv 8) (fun _ _ => rfl)) (KX.tup (K := K) rfl rfl (pgs_cons (pg_name (i := 9) sc_law.nd rfl (Or.inl rfl)) (pgs_cons (pg_name (i := 10) sc_law.nd rfl (Or.inl rfl)) (pgs_cons (pg_name (i := 11) sc_law.nd rfl (Or.inl rfl)) (pgs_cons (pg_name (i := 12) sc_law.nd rfl (Or.inl rfl)) pgs_nil))))))
      (pss_cons (ps_if (PW.pt (pw_or (pt_cmpR (KX.neU (K := K) rfl hr.units) (pe_callB (callReprL hg hr.units) (by rfl) T.b_repr (by decide +kernel) (pa_cons (KX.callF (P := P) (w := w) (K := K) (mg := mg) (base := base) (k := 1) hr (pv 10) (pa_cons (pv 9) pa_nil)) pa_nil)) (pe_callB (callReprL hg hr.units) (by rfl) T.b_repr (by decide +kernel) (pa_cons (pv 11) pa_nil)) (nomark _)) (pw_or (pt_not (pt_val (pe_callB (KX.callIsi (K := K)) (by rfl) T.b_isinstance (by decide +kernel) (pa_cons (pv 9) (pa_cons (C8.pe_gc (by rfl) T.g_Paper) pa_nil))))) (pw_or1 (pt_cmpR (KX.nq (K := K) rfl hr.units) (pe_callTy (KX.boolP (K := K) rfl hfb Gb bb hr) (by rfl) T.b_bool (by decide +kernel) (pa_cons (pv 9) pa_nil)) (pv 12) (nomark _)))))) (pss_one (ps_ret pe_bl)) pss_nil)
      (pss_one (ps_if (PW.pt (pw_or (pt_cmpR (KX.pq (K := K) rfl hr.units) (pe_callB (KX.callIsi (K := K)) (by rfl) T.b_isinstance (by decide +kernel) (pa_cons (pv 9) (pa_cons (C8.pe_gc (by rfl) T.g_Denial) pa_nil))) (pv 12) (nomark _)) (pw_or (pt_not (pt_cmpR (eqOwnL rfl FE BE hr passF) (pv 9) (pe_ix (KX.ixU (K := K)) (pe_ix (KX.ixU (K := K)) (pv 7) (pv 8) (fun _ _ => rfl)) pe_int (fun _ _ => rfl)) (nomark _))) (pw_or1 (pt_cmpR (eqOwnL rfl FE BE hr passF) (pv 9) (pv 11) (nomark _)))))) (pss_one (ps_ret pe_bl)) pss_nil)))))
      (pss_one (ps_for (passes_of rfl) rfl (pi_range2 (by rfl) T.b_range (pa_cons pe_int (pa_cons (pe_op op_sub (pe_callB (KX.callLen (K := K)) (by rfl) T.b_len (by decide +kernel) (pa_cons (pv 6) pa_nil)) pe_int) pa_nil))) (pg_name (i := 8) sc_law.nd rfl (Or.inr rfl)) (pss_cons (ps_setLc (i := 13) (own := [("_law_pair", 15)]) (g := gName 15) (by rfl) sc_law.nd rfl rfl (sw_true rfl rfl rfl (by decide +kernel)) (pi_list (pe_lst (pa_cons (pe_tup (pa_cons pe_int (pa_cons pe_int pa_nil))) (pa_cons (pe_tup (pa_cons pe_int (pa_cons pe_int pa_nil))) (pa_cons (pe_tup (pa_cons pe_int (pa_cons pe_int pa_nil))) pa_nil))))) (blkOk_by (own := [("_law_pair", 15)]) (N := names_law) (sc := defScope s_law) (by decide +kernel)) (fun _ _ _ _ _ => pg_name (i := 15) sc_law.nd rfl (Or.inl rfl)) (fun _ _ _ _ _ => pts_one (pt_cmpR (KX.eqU (K := K) rfl hr.units) (pv 8) (pe_ix (KX.ixU (K := K)) (pv 15) pe_int (fun _ _ => rfl)) (nomark _))) (fun _ _ _ _ _ => (pv 15)))
      (pss_one (ps_if (PW.pt (pw_and (pt_cmpR (KX.eqU (K := K) rfl hr.units) (pv 13) (pe_lst pa_nil) (nomark _)) (pw_and1 (pt_cmpR (eqOwnL rfl FE BE hr passF) (pe_ix (KX.ixU (K := K)) (pe_ix (KX.ixU (K := K)) (pv 6) (pv 8) (fun _ _ => rfl)) pe_int (fun _ _ => rfl)) (pe_ix (KX.ixU (K := K)) (pe_ix (KX.ixU (K := K)) (pv 6) (pe_op opAdd (pv 8) pe_int) (fun _ _ => rfl)) pe_int (fun _ _ => rfl)) (nomark _))))) (pss_one (ps_ret pe_bl)) pss_nil)))))))))
      (pss_cons (ps_set (i := 14) sc_law.nd rfl (Or.inl rfl) (pe_lst (pa_cons (pe_cmpR (eqOwnL rfl FE BE hr passF) (pe_mko m_Fewest_1 hr passF (pa_cons pe_int pa_nil)) (pe_mko m_Fewest_1 hr passF (pa_cons pe_int pa_nil)) (nomark _)) (pa_cons (pe_cmpR (eqOwnL rfl FE BE hr passF) (pe_mko m_Least_3 hr passF (pa_cons pe_int (pa_cons pe_int (pa_cons pe_int pa_nil)))) (pe_mko m_Least_3 hr passF (pa_cons pe_int (pa_cons pe_int (pa_cons pe_int pa_nil)))) (nomark _)) (pa_cons (pe_cmpR (eqOwnL rfl FE BE hr passF) (pe_mko m_Bound_2 hr passF (pa_cons pe_int (pa_cons pe_int pa_nil))) (pe_mko m_Beyond_2 hr passF (pa_cons pe_int (pa_cons pe_int pa_nil))) (nomark _)) pa_nil)))))
      (pss_cons (ps_expr (pe_bm PySem.F.plainAttrs_list PySem.F.slot_list_append PySem.F.type_list_append mt_append (pv 14) (pa_cons (pe_cmpR (neOwn (T.cmp 1 (by decide)) (BE' 1 (by decide)) hr passF) (pe_mko m_NoList_1 hr passF (pa_cons (pe_tup (pa_cons pe_int pa_nil)) pa_nil)) (pe_mko m_NoList_1 hr passF (pa_cons (pe_tup (pa_cons pe_int (pa_cons pe_int pa_nil))) pa_nil)) (nomark _)) pa_nil)))
      (pss_one (ps_ret (pe_and (pe_cmpR (KX.eqU (K := K) rfl hr.units) (pv 14) (pe_lst (pa_cons pe_bl (pa_cons pe_bl (pa_cons pe_bl (pa_cons pe_bl pa_nil))))) (nomark _)) (pe_one (pe_cmpR (neOwn (T.cmp 20 (by decide)) (BE' 20 (by decide)) hr passF) (pe_mko m_Taking_4 hr passF (pa_cons pe_str (pa_cons pe_int (pa_cons pe_int (pa_cons pe_int pa_nil))))) (pe_mko m_Taking_4 hr passF (pa_cons pe_str (pa_cons pe_int (pa_cons pe_int (pa_cons pe_int pa_nil))))) (nomark _)))))))))), ?_⟩
    tm_at "s"
    refine ⟨a, ns, rfl, hs, hns, fun p H1 hp e1 p1 => ?_⟩
    tm_at "s"
    refine ⟨4, rfl, by decide, by decide, for_range (lo := 0) (n := 4) (fun i σ H => (∃ v2 v3 v4 v5 v6 v7 v8 v9 v10 v11 v12 v13, σ = [some (.ref a), some (.ref p), v2, v3, v4, v5, v6, v7, v8, v9, v10, v11, v12, v13, none, none]) ∧ ∃ m, Wo Tt H p m ∧ m ≤ 3 * i) ⟨⟨_, _, _, _, _, _, _, _, _, _, _, _, rfl⟩, 0, ⟨p1, ht.ext e1⟩, by omega⟩ ?_ ?_⟩
    · rintro i _ H2 hi ⟨⟨v2, v3, v4, v5, v6, v7, v8, v9, v10, v11, v12, v13, rfl⟩, m, W2, hm⟩
      generalize hD : ({ nx := _, rt := _, bk := _, ct := _ } : Ends) = D
      have Dnx : ∀ σ H, (∃ v2 v3 v4 v5 v6 v7 v8 v9 v10 v11 v12 v13, σ = [some (.ref a), some (.ref p), v2, v3, v4, v5, v6, v7, v8, v9, v10, v11, v12, v13, none, none]) → (∃ m, Wo Tt H p m ∧ m ≤ 3 * (i + 1)) → D.nx σ H := fun σ H h1 h2 => by rw [← hD]; exact ⟨h1, h2⟩
      try dsimp only
      refine s_seq ?_
      tm_at "s"
      refine ⟨p, m, rfl, W2, by unfold lim; omega, fun x1 d1 H3 W3 k3 vd1 nx1 ok1 sh1 => ?_⟩
      tm_at "s"
      refine ⟨p, m + 1, rfl, W3, by unfold lim; omega, fun x2 d2 H4 W4 k4 vd2 nx2 ok2 sh2 => ?_⟩
      have vd1 : Vd H4 x1 d1 := vd1.map fun b o e h _ => k4 b o (fun z => nx1 (by rw [e, z])) h
      tm_at "s"
      refine ⟨p, m + 1 + 1, rfl, W4, by unfold lim; omega, fun x3 d3 H5 W5 k5 vd3' nx3 ok3 sh3 => ?_⟩
      have vd1 : Vd H5 x1 d1 := vd1.map fun b o e h _ => k5 b o (fun z => nx1 (by rw [e, z])) h
      have vd2 : Vd H5 x2 d2 := vd2.map fun b o e h _ => k5 b o (fun z => nx2 (by rw [e, z])) h
      tm_at "s"
      refine ⟨x1, x2, x3, rfl, W5.tabs, fun l H6 xs e6 t6 hl rows => ?_⟩
      tm_at "s"
      refine ⟨x1, x2, x3, rfl, t6, fun l2 H7 ys e7 t7 hl2 rows2 => ?_⟩
      tm_at "s"
      have hlen : xs.length = 30 := Paired.length rows
      have hlen2 : ys.length = 30 := Paired.length rows2
      have hl7 := e7 _ _ hl (fun _ z => nomatch z)
      have W7 := W5.exN (e6.trans e7) t7
      have w1 := vd1.exN (e6.trans e7)
      have w2 := vd2.exN (e6.trans e7)
      have w3 := vd3'.exN (e6.trans e7)
      have ixs : ∀ {zs : List V} {n : Nat} {x : V}, n < zs.length → zs[n]? = some x → atI zs (0 + (n : Int)) = some x := fun {zs n x} hn hx => by rw [Int.zero_add, atI_int (Int.natCast_nonneg _) (by omega), Int.toNat_natCast]; exact hx
      refine ⟨.ref l, rfl, .ref l, xs.length, rfl, .inl ⟨xs, .inl (.inl hl7), rfl⟩, 30, (by rw [hlen]; rfl), by decide, by decide, for_range (lo := 0) (n := 30) (fun n σ H => Ex H7 H ∧ ∃ v8 v9 v10 v11 v12 v13, σ = [some (.ref a), some (.ref p), some (.int (0 + (i : Int))), some x1, some x2, some x3, some (.ref l), some (.ref l2), v8, v9, v10, v11, v12, v13, none, none]) ⟨Ex.refl _, _, _, _, _, _, _, rfl⟩ ?_ ?_⟩
      · rintro n _ H8 hn ⟨e8, v8, v9, v10, v11, v12, v13, rfl⟩
        obtain ⟨x, r, hx, hr1, ra⟩ := paired_get rows n hn
        obtain ⟨y, r', hy, hr2, rb⟩ := paired_get rows2 n hn
        obtain rfl : r = r' := by rw [hr1] at hr2; exact Option.some.inj hr2
        have gd := good x1 x2 x3 r (List.mem_of_getElem? hr1)
        obtain ⟨t, e, fl, ld, rfl, ht8, ⟨dx, he⟩, lf, hld, nld⟩ := ra.exN hLm (e7.trans e8.n)
        obtain ⟨t', e', fl', ld', rfl, ht8', ⟨dx', he'⟩, _, _, _⟩ := rb.exN hLm e8.n
        have hlc : r.c < cs.length := by rw [T.len]; exact gd.c
        try dsimp only
        refine s_seq ?_
        tm_at "s"
        refine s_iL (e8 _ _ hl7) (ixs (by omega) hx) ?_
        refine s_gT ht8 rfl ?_
        tm_at "s"
        refine ⟨fl, _, rfl, lf, ?_⟩
        tm_at "s"
        refine ⟨_, rfl, lf, e, _, r.fs, r.vs, rfl, ⟨dx, he⟩, T.cl r.c gd.c, (fun g hg => T.fld r.c gd.c g (gd.gl g hg)), gd.hm, fun q9 H9 nq9 hq9 e9 h9 => ?_⟩
        obtain ⟨ds, hvd, hdl, hok⟩ := vd3 (w1.ex (e8.trans e9)) (w2.ex (e8.trans e9)) (w3.ex (e8.trans e9)) ok1 ok2 ok3 gd.vs
        have hds : ds.length ≤ 10 := by have := gd.ln; omega
        tm_at "s"
        refine s_reprL h9 nq9 hvd hok hds ?_
        tm_at "s"
        refine s_reprL (e9 _ _ hld) nld hvd hok hds ?_
        tm_at "s"
        refine iteND (fun z => absurd rfl z) (fun _ => ?_)
        tm_at "s"
        have he9 := e9 _ _ he
        refine s_isiC (T.ty gd.c he9) (T.kitP r.c gd.c) ?_
        tm_at "s"
        obtain ⟨bv, hbv, hbo⟩ : ∃ bv, bv = (!den r.c) ∧ ((bv = true ∧ PySem.W.findIn K (.ref (cs.getD r.c 0)) "__bool__" = some none ∧ PySem.W.findIn K (.ref (cs.getD r.c 0)) "__len__" = some none) ∨ (bv = false ∧ PySem.W.findIn K (.ref (cs.getD r.c 0)) "__bool__" = some (some (.ref fb)))) := by
          rcases T.bo r.c gd.c with ⟨h1, h2⟩ | ⟨h1, h2⟩
          · exact ⟨true, by rw [h1]; rfl, .inl ⟨rfl, h2⟩⟩
          · exact ⟨false, by rw [h1]; rfl, .inr ⟨rfl, h2⟩⟩
        have hB : r.B = .bl bv ∨ (bv = true ∧ r.B = .int 1) := by
          rcases gd.B with h | ⟨h1, h2⟩
          · exact .inl (by rw [h, hbv])
          · exact .inr ⟨by rw [hbv, h1]; rfl, h2⟩
        refine ⟨e, _, dx, _, bv, rfl, he9, hbo, ?_⟩
        tm_at "s"
        refine ⟨true, pqB hB, ?_⟩
        tm_at "s"
        refine s_isiC (T.ty gd.c he9) (T.kitD r.c gd.c) ?_
        tm_at "s"
        refine ⟨false, ?_, ?_⟩
        · have z := pqN (K := K) (H := H9) hB
          rw [hbv, Bool.not_not] at z
          exact z
        tm_at "s"
        refine s_iL ((e8.trans e9) _ _ hl2) (ixs (by omega) hy) ?_
        tm_at "s"
        refine s_iT (e9 _ _ ht8') rfl ?_
        obtain ⟨zs, hzs, hfv⟩ := gd.fx
        obtain ⟨bs, hpq, hall⟩ := pqAll_same (K := K) (H := H9) fun x hx => pqFv (w1.ex (e8.trans e9)) (w2.ex (e8.trans e9)) (w3.ex (e8.trans e9)) sh1 sh2 sh3 (hfv x hx)
        refine ⟨r.c, hlc, e, dx, _, rfl, he9, .inl (.inl (.inl ⟨e', dx', _, rfl, e9 _ _ he'⟩)), e, .ref e', r.fs, rfl, ⟨dx, he9⟩, .inl ⟨e', r.fs, zs, zs, bs, rfl, ⟨dx', e9 _ _ he'⟩, gd.ow, gd.ow, hzs, hzs, hpq, fun H10 e10 => ?_⟩⟩
        rw [hall]
        tm_at "s"
        have he10 := e10 _ _ he9
        have hld10 := e10 _ _ (e9 _ _ hld)
        refine ⟨r.c, hlc, e, dx, _, rfl, he10, .inr ⟨ld, _, rfl, hld10⟩, e, .ref ld, r.fs, rfl, ⟨dx, he10⟩, .inr ⟨.type "list", .x (.base (.lst hld10)), T.kitLs r.c gd.c, fun H11 e11 => ?_⟩⟩
        tm_at "s"
        exact ⟨((e8.trans e9).trans e10).trans e11, _, _, _, _, _, _, rfl⟩
      · rintro _ H8 ⟨e8, v8, v9, v10, v11, v12, v13, rfl⟩
        try dsimp only
        refine ⟨.ref l, rfl, .ref l, xs.length, rfl, .inl ⟨xs, .inl (.inl (e8 _ _ hl7)), rfl⟩, _, _, rfl, rfl, 0, 29, (by rw [hlen]; rfl), by decide, for_range (lo := 0) (n := 29) (fun n σ H => Ex H7 H ∧ ∃ v8 v9 v10 v11 v12 v13, σ = [some (.ref a), some (.ref p), some (.int (0 + (i : Int))), some x1, some x2, some x3, some (.ref l), some (.ref l2), v8, v9, v10, v11, v12, v13, none, none]) ⟨e8, _, _, _, _, _, _, rfl⟩ ?_ ?_⟩
        · rintro n _ H9 hn ⟨e9, v8, v9, v10, v11, v12, v13, rfl⟩
          try dsimp only
          refine s_seq ?_
          tm_at "s"
          refine s_new (Nat.le_of_lt (small1000 (by simp))) fun t1 G1 nt1 f1 g1 => ?_
          tm_at "s"
          refine s_new (Nat.le_of_lt (small1000 (by simp))) fun t2 G2 nt2 f2 g2 => ?_
          tm_at "s"
          refine s_new (Nat.le_of_lt (small1000 (by simp))) fun t3 G3 nt3 f3 g3 => ?_
          tm_at "s"
          refine s_new (Nat.le_of_lt (small1000 (by simp))) fun tl G4 nt4 f4 g4 => ?_
          have g1 := f4 _ _ (f3 _ _ (f2 _ _ g1))
          have g2 := f4 _ _ (f3 _ _ g2)
          have g3 := f4 _ _ g3
          have F4 := (((e9.trans f1).trans f2).trans f3).trans f4
          have hit : ∀ (i : Nat) (x : V), [V.ref t1, V.ref t2, V.ref t3][i]? = some x → ∃ t j j', x = .ref t ∧ G4 t = some (.tup [.int j, .int j']) ∧ j = (([3, 26, 28].getD i 0 : Nat) : Int) := by
            intro i x hx
            match i, hx with
            | 0, hx => cases hx; exact ⟨t1, 3, 4, rfl, g1, rfl⟩
            | 1, hx => cases hx; exact ⟨t2, 26, 27, rfl, g2, rfl⟩
            | 2, hx => cases hx; exact ⟨t3, 28, 29, rfl, g3, rfl⟩
          refine ⟨tl, rfl, ⟨_, .inl (.inl g4)⟩, lcFL (fun i => decide (n = [3, 26, 28].getD i 0)) g4 (small1000 (by simp)) (fun _ => rfl) (fun i x G5 R hx f5 r => ?_) (fun x G5 R r => ?_) fun tw G6 nw f6 g6 => ?_⟩
          · obtain ⟨t, j, j', rfl, gt, hj⟩ := hit i x hx
            tm_at "s"
            refine s_iT (f5 _ _ gt) rfl ?_
            tm_at "s"
            rw [show decide ((0 : Int) + (n : Int) = j) = decide (n = [3, 26, 28].getD i 0) by rw [hj]; exact decide_eq_decide.mpr ⟨fun h => by omega, fun h => by omega⟩]
            exact r
          · tm_at "s"
            exact r
          have F6 := F4.trans f6
          have twc : ((∃ t j j', G6 tw = some (.lst [.ref t]) ∧ G6 t = some (.tup [.int j, .int j'])) ∨ (n ≠ 3 ∧ n ≠ 26 ∧ n ≠ 28 ∧ G6 tw = some (.lst []))) := by
            by_cases h3 : n = 3
            · subst h3; exact .inl ⟨t1, _, _, g6, f6 _ _ g1⟩
            by_cases h26 : n = 26
            · subst h26; exact .inl ⟨t2, _, _, g6, f6 _ _ g2⟩
            by_cases h28 : n = 28
            · subst h28; exact .inl ⟨t3, _, _, g6, f6 _ _ g3⟩
            refine .inr ⟨h3, h26, h28, ?_⟩
            have : (List.range [V.ref t1, V.ref t2, V.ref t3].length).filter (fun i => decide (n = [3, 26, 28].getD i 0)) = [] := by
              show (List.range 3).filter _ = []
              rw [show List.range 3 = [0, 1, 2] from rfl]
              simp [h3, h26, h28]
            rw [g6, this]; rfl
          try dsimp only
          tm_at "s"
          refine s_new (Nat.le_of_lt (small1000 (by simp))) fun t7 G7 nt7 f7 g7 => ?_
          have F7 := F6.trans f7
          rcases twc with ⟨t, j, j', gw, gt⟩ | ⟨h3, h26, h28, gw⟩
          · refine .inr (s_eqD (.lst (.inl (.inl (f7 _ _ gw))) (.cons (.tup (.inl (.inl (f7 _ _ gt))) (.cons (.int j) (.cons (.int j') .nil))) .nil)) (.lst (.inl (.inl g7)) .nil) rfl rfl ?_)
            tm_at "s"
            exact ⟨F7, _, _, _, _, _, _, rfl⟩
          · refine .inr (s_eqD (.lst (.inl (.inl (f7 _ _ gw))) .nil) (.lst (.inl (.inl g7)) .nil) rfl rfl ?_)
            rw [show PyData.eqv (.list []) (.list []) = true from rfl]
            tm_at "s"
            obtain ⟨x, r, hx, hr1, ra⟩ := paired_get rows n (show n < 30 by omega)
            obtain ⟨y, r', hy, hr2, rb⟩ := paired_get rows (n + 1) (show n + 1 < 30 by omega)
            obtain ⟨t, e, fl, ld, rfl, ht8, ⟨dx, he⟩, _⟩ := ra.exN hLm (e7.trans F7.n)
            obtain ⟨t', e', fl', ld', rfl, ht8', ⟨dx', he'⟩, _⟩ := rb.exN hLm (e7.trans F7.n)
            have gd := good x1 x2 x3 r (List.mem_of_getElem? hr1)
            have gd' := good x1 x2 x3 r' (List.mem_of_getElem? hr2)
            have hcc : r.c ≠ r'.c := by
              have h1 : clsT[n]? = some r.c := by rw [← cls_of x1 x2 x3, List.getElem?_map, hr1]; rfl
              have h2 : clsT[n + 1]? = some r'.c := by rw [← cls_of x1 x2 x3, List.getElem?_map, hr2]; rfl
              have := cls_ne n hn h3 h26 h28
              rw [List.getD_eq_getElem?_getD, List.getD_eq_getElem?_getD, h1, h2] at this
              exact this
            refine s_iL (F7 _ _ hl7) (ixs (by omega) hx) ?_
            tm_at "s"
            refine s_iT ht8 rfl ?_
            tm_at "s"
            refine s_iL (F7 _ _ hl7) (i := 0 + (n : Int) + 1) (by rw [Int.add_assoc]; exact ixs (n := n + 1) (by omega) hy) ?_
            tm_at "s"
            refine s_iT ht8' rfl ?_
            refine ⟨r.c, by rw [T.len]; exact gd.c, e, dx, _, rfl, he, .inl (.inr ⟨_, e', dx', _, rfl, he', T.nf r.c r'.c gd.c gd'.c⟩), e, .ref e', r.fs, rfl, ⟨dx, he⟩, .inr ⟨_, T.ty gd'.c he', by rw [T.kit _ _ gd'.c gd.c, decide_eq_false hcc.symm], fun G8 f8 => ?_⟩⟩
            tm_at "s"
            exact ⟨F7.trans f8, _, _, _, _, _, _, rfl⟩
        · rintro _ H9 ⟨e9, v8, v9, v10, v11, v12, v13, rfl⟩
          exact Dnx _ _ ⟨_, _, _, _, _, _, _, _, _, _, _, _, rfl⟩ ⟨_, W7.ex e9, by omega⟩
    · rintro _ H2 ⟨⟨v2, v3, v4, v5, v6, v7, v8, v9, v10, v11, v12, v13, rfl⟩, m, W2, hm⟩
      try dsimp only
      refine s_seq ?_
      tm_at "s"
      refine s_mkP rfl fun q1 G1 n1 f1 pa1 => ?_
      tm_at "s"
      refine s_mkP rfl fun q2 G2 n2 f2 pa2 => ?_
      refine s_eqPa (j := 0) rfl (by rw [T.len]; decide) (pa1.ex f2) pa2 rfl rfl (xs := [.int 1]) (ys := [.int 2]) rfl rfl (.cons (pqInt 1 2) .nil) fun G3 f3 => ?_
      tm_at "s"
      refine s_mkP rfl fun q4 G4 n4 f4 pa4 => ?_
      tm_at "s"
      refine s_mkP rfl fun q5 G5 n5 f5 pa5 => ?_
      refine s_eqPa (j := 3) rfl (by rw [T.len]; decide) (pa4.ex f5) pa5 rfl rfl (xs := [.int 1, .int 2, .int 3]) (ys := [.int 1, .int 2, .int 4]) rfl rfl (.cons (pqInt _ _) (.cons (pqInt _ _) (.cons (pqInt _ _) .nil))) fun G6 f6 => ?_
      tm_at "s"
      refine s_mkP rfl fun q7 G7 n7 f7 pa7 => ?_
      tm_at "s"
      refine s_mkP rfl fun q8 G8 n8 f8 pa8 => ?_
      obtain ⟨d7, i7⟩ := id (pa7.ex f8)
      obtain ⟨d8, i8⟩ := id pa8
      refine ⟨15, by rw [T.len]; decide, q7, d7, _, rfl, i7, .inl (.inr ⟨_, q8, d8, _, rfl, i8, T.nf 15 18 (by decide) (by decide)⟩), q7, .ref q8, _, rfl, ⟨d7, i7⟩, .inr ⟨_, T.ty (j := 18) (by decide) i8, by rw [T.kit 18 15 (by decide) (by decide)]; rfl, fun G9 f9 => ?_⟩⟩
      tm_at "s"
      refine s_new (Nat.le_of_lt (small1000 (by simp))) fun tt G10 n10 f10 g10 => ?_
      try dsimp only
      refine s_seq ?_
      tm_at "s"
      refine s_tyL g10 ?_
      tm_at "s"
      refine s_new (Nat.le_of_lt (small1000 (by simp))) fun u1 G11 n11 f11 g11 => ?_
      tm_at "s"
      refine s_mkP rfl fun q12 G12 n12 f12 pa12 => ?_
      tm_at "s"
      refine s_new (Nat.le_of_lt (small1000 (by simp))) fun u2 G13 n13 f13 g13 => ?_
      tm_at "s"
      refine s_mkP rfl fun q14 G14 n14 f14 pa14 => ?_
      refine s_nePa (pa12.ex (f13.trans f14)) pa14 rfl rfl (xs := [.ref u1]) (ys := [.ref u2]) rfl rfl (.cons (.dat (d := .tuple [.int 1]) (e := .tuple [.int 1, .int 1]) (.tup (.inl (.inl ((f12.trans (f13.trans f14)) _ _ g11))) (.cons (.int 1) .nil)) (.tup (.inl (.inl (f14 _ _ g13))) (.cons (.int 1) (.cons (.int 1) .nil))) rfl rfl) .nil) fun G15 f15 => ?_
      tm_at "s"
      refine s_app ((f11.trans (f12.trans (f13.trans (f14.trans f15)))) _ _ g10) (small1000 (by simp)) ?_
      generalize hG : upd G15 tt _ = G16
      have g16 : G16 tt = some (.lst [.bl false, .bl false, .bl false, .bl true]) := by rw [← hG, upd_same]; rfl
      try dsimp only
      tm_at "s"
      refine s_new (Nat.le_of_lt (small1000 (by simp))) fun u3 G17 n17 f17 g17 => ?_
      refine .inr (s_eqD (.lst (.inl (.inl (f17 _ _ g16))) (.cons (.bl _) (.cons (.bl _) (.cons (.bl _) (.cons (.bl _) .nil))))) (.lst (.inl (.inl g17)) (.cons (.bl _) (.cons (.bl _) (.cons (.bl _) (.cons (.bl _) .nil))))) rfl rfl ?_)
      rw [SeqAt.eqv_refl _ rfl]
      tm_at "s"
      refine s_mkP rfl fun q18 G18 n18 f18 pa18 => ?_
      tm_at "s"
      refine s_mkP rfl fun q19 G19 n19 f19 pa19 => ?_
      refine s_nePa (pa18.ex f19) pa19 rfl rfl (xs := [.str "a", .int 0, .int 1, .int 2]) (ys := [.str "a", .int 0, .int 1, .int 3]) rfl rfl (.cons (b := true) (by have := Pq.dat (K := K) (H := G19) (.str "a") (.str "a") (by decide +kernel) (by decide +kernel); rw [SeqAt.eqv_refl _ (by decide +kernel)] at this; exact this) (.cons (pqInt _ _) (.cons (pqInt _ _) (.cons (pqInt _ _) .nil)))) fun G20 f20 => ?_
      exact k _
end
end K03
end
section
local macro_rules | `(tactic| tm_at "s1") => `(tactic| first
  | with_reducible first
    | refine L3.s_seq ?_ | refine L3.s_asg ?_ | refine L3.s_op ?_ | refine L3.s_c ?_ | refine L3.s_cb ?_ | refine L3.s_cons ?_ | refine L3.s_nil ?_ | refine L3.s_test ?_ | refine L3.s_bl ?_
    | refine L3.s_I0 ?_ | refine L3.s_and ?_ | refine L3.s_or ?_ | refine L3.s_not ?_ | refine L3.s_if ?_ | refine L3.s_next ?_ | refine L3.s_ret ?_ | refine L3.s_retN ?_ | refine L3.s_asgS ?_ | refine L3.s_drop ?_
    | refine L3.s_un ?_ | refine L3.s_U ?_ | refine L3.s_int ?_ | refine L3.s_intB ?_ | refine L3.s_abs ?_ | refine L3.s_andV ?_ | refine L3.s_orV ?_ | refine L3.s_notV ?_ | refine L3.s_ifE ?_ | refine L3.s_call ?_ | refine L3.s_lst ?_ | refine L3.s_tup ?_ | refine L3.s_tB ?_
    | refine L3.s_addI ?_ | refine L3.s_inS ?_ | refine L3.s_ninS ?_ | refine L3.s_slice ?_ | refine L3.s_part ?_ | refine L3.s_partI ?_ | refine L3.s_nopart ?_ | refine L3.s_cI ?_ | refine L3.s_cB ?_ | refine L3.s_chain ?_ | refine L3.s_bm ?_ | refine L3.s_lcS ?_ | refine L3.s_lcR ?_ | refine L3.s_strE ?_
    | refine L2.iteT ?_ | refine L2.iteF ?_ | refine L3.iteNF ?_ | refine L3.iteNT ?_
    | refine L3.s_eqI ?_ | refine L3.s_neI ?_ | refine L3.s_eqS ?_ | refine L3.s_neS ?_
    | refine L3.s_pair ?_ | refine L3.s_pair2 ?_ | refine L3.s_fld ?_ | refine L3.s_make ?_ | refine L3.s_m1 ?_ | refine L3.s_isstr ?_
    | refine L3.s_xfV ?_ | refine L3.s_lstN ?_ | refine L3.s_callF ?_ | refine L3.s_lcL ?_ | refine L3.s_par3 ?_ | refine L3.s_trip ?_ | refine L3.s_asgT' ?_ | refine L3.s_gC ?_ | refine L3.s_gN ?_ | refine L3.s_fldG ?_ | refine L3.s_raise1 ?_
    | refine L3.s_isN ?_ | refine L3.s_isB ?_ | refine L3.s_nisN ?_ | refine L3.s_nisB ?_
  | ((with_reducible refine' L3.s_var ?e ?_); (case e => rfl))
  | ((with_reducible refine' L3.s_aug ?e ?_); (case e => rfl))
  | ((with_reducible refine' L3.s_pow ?c ?_); (case c => exact ⟨by decide, by decide, by decide⟩)))
local macro_rules | `(tactic| tm_at "s") => `(tactic| repeat tm_at "s1")
namespace K03
open PySem PySem.Spec PyProof.Rows L2 L3 LamX
abbrev s_Denial___bool__ : Stmt := inClass (topS 2) 0
theorem sc_Denial___bool__ : FnScope ["self"] ["self"] (defScope s_Denial___bool__) := ⟨rfl, rfl, rfl, by decide +kernel, rfl, by decide +kernel, by decide +kernel⟩
theorem ok_bool {P : Program} {w : World} {K : PySem.W.Frag} {mg : Str → Option Value} {base : Heap} {f : Addr} {fd : FuncData} (F : Fun K "__bool__" "Denial.__bool__" s_Denial___bool__ f fd) : FnOk P w K mg base CX0 1 f fd ["self"] spNo := by
  refine funO F sc_Denial___bool__ (fun vs H Q E h => ?_) (fun cd A fr s H vs Q E hr h => ?_)
  · obtain ⟨p, rfl, _⟩ := h; rfl
  · obtain ⟨p, rfl, k⟩ := h
    refine ⟨_, (pss_one (ps_ret pe_bl)), ?_⟩
    tm_at "s"
    exact k
theorem kbnQ {K : PySem.W.Frag} {x qual : Str} {st : Stmt} {f : Addr} {fd : FuncData} {ps : List Str} (F : Fun K x qual st f fd) (n : Nat) (ks : List Str) (ix : List Nat)
    (h : ∀ (kV doc pm : Value) (an : Option Addr) (cdv ct : Value) (us ws : List Value), us.length = n + 1 → ws.length = ks.length → bindArgs (PySem.W.fnOf x qual (defArgs st) (defBody st) (defScope st) .none kV doc pm an cdv ct) ⟨us, ks.zip ws⟩ = pure (ps.zip (permG ix us ws))) :
    KBn K fd ps (n + 1) ks (permG ix) (permG ix) := by
  obtain ⟨oc, od, kV, doc, pm, an, cd, ct, sl, rfl, lk, hcd⟩ := F.ex
  exact ⟨fun s us ws hK h1 h2 => .of_eq (h kV doc pm an cd ct us ws h1 h2), fun a b => permG_rel ix a b⟩
/-- what the written part says of a paper's class -/
def clB (K : PySem.W.Frag) (C : Addr) : Bool := PySem.W.plainGet K C Str.empty && (PySem.W.hasDictIn K C && (PySem.W.plainOver K C && decide (PySem.W.findIn K (.ref C) "__setattr__" = some (some (.builtin "object.__setattr__")))))
theorem clB_ok {K : PySem.W.Frag} {C : Addr} (h : clB K C = true) : Cls K C := by
  unfold clB at h
  simp only [Bool.and_eq_true, decide_eq_true_eq] at h
  exact ⟨h.1, h.2.1, h.2.2.1, h.2.2.2⟩
def tyB (K : PySem.W.Frag) (C : Addr) : Bool := decide (PySem.W.findIn K (.ref C) "__class__" = some (some (.builtin "object.__class__"))) && decide (PySem.W.mroIn K C (.type "object") = some true)
theorem tyB_ok {K : PySem.W.Frag} {C : Addr} (h : tyB K C = true) : PySem.W.findIn K (.ref C) "__class__" = some (some (.builtin "object.__class__")) ∧ PySem.W.mroIn K C (.type "object") = some true := by
  unfold tyB at h
  simp only [Bool.and_eq_true, decide_eq_true_eq] at h
  exact h
def cmB (K : PySem.W.Frag) (C : Addr) : Bool := (numTys.all fun T => PySem.W.notFirst K C (.type T)) && (PySem.W.notFirst K C (.ref C) && ((numTys.all fun T => decide (PySem.W.subIn K (.ref C) (.type T) = some false)) && (decide (PySem.W.mroIn K C (.type "object") = some true) && decide (PySem.W.findIn K (.ref C) "__ne__" = some (some (.builtin "object.__ne__"))))))
theorem cmB_ok {K : PySem.W.Frag} {C : Addr} (h : cmB K C = true) : CmpF K C := by
  unfold cmB at h
  simp only [Bool.and_eq_true, decide_eq_true_eq] at h
  exact ⟨h.1, h.2.1, h.2.2.1, h.2.2.2.1, h.2.2.2.2⟩
def boB (K : PySem.W.Frag) (fb C : Addr) (d : Bool) : Bool := if d then decide (PySem.W.findIn K (.ref C) "__bool__" = some (some (.ref fb))) else (decide (PySem.W.findIn K (.ref C) "__bool__" = some none) && decide (PySem.W.findIn K (.ref C) "__len__" = some none))
theorem boB_ok {K : PySem.W.Frag} {fb C : Addr} {d : Bool} (h : boB K fb C d = true) : (d = false ∧ PySem.W.findIn K (.ref C) "__bool__" = some none ∧ PySem.W.findIn K (.ref C) "__len__" = some none) ∨ (d = true ∧ PySem.W.findIn K (.ref C) "__bool__" = some (some (.ref fb))) := by
  unfold boB at h
  cases d with
  | true => exact .inr ⟨rfl, of_decide_eq_true h⟩
  | false =>
    simp only [Bool.false_eq_true, if_false, Bool.and_eq_true, decide_eq_true_eq] at h
    exact .inl ⟨rfl, h⟩
end K03
end
section
namespace K03
open PySem PySem.Spec PyProof.Rows L2 L3 LamX
theorem fnMk {P : Program} {w : World} {K : PySem.W.Frag} {mg : Str → Option Value} {base : Heap} {CX : CXT} {k : Nat} {x qual : Str} {st : Stmt} {f : Addr} {fd : FuncData} {ps : List Str} {sp : Sp} (F : Fun K x qual st f fd) (ok : FnG P w K mg base CX k f fd ps sp) (m : mg x = some (.ref f))
    (hb : ∀ (kV doc pm : Value) (an : Option Addr) (cdv ct : Value) (us : List Value), us.length = ps.length → bindArgs (PySem.W.fnOf x qual (defArgs st) (defBody st) (defScope st) .none kV doc pm an cdv ct) ⟨us, []⟩ = pure (ps.zip us))
    (hk : ∀ (kV doc pm : Value) (an : Option Addr) (cdv ct : Value) (us : List Value), us.length = ps.length → bindArgs (PySem.W.fnOf x qual (defArgs st) (defBody st) (defScope st) .none kV doc pm an cdv ct) ⟨[], ps.zip us⟩ = pure (ps.zip us)) : Fn P w K mg base CX k x ps sp := by
  have kp := F.kp
  obtain ⟨oc, od, kV, doc, pm, an, cd, ct, sl, rfl, lk, hcd⟩ := F.ex
  exact ⟨⟨f, _, ok, m, kp, .all (hb kV doc pm an cd ct), fun s ws _ hl => .of_eq (hk kV doc pm an cd ct ws hl)⟩⟩
theorem bMk {K : PySem.W.Frag} {x qual : Str} {st : Stmt} {f : Addr} {fd : FuncData} {ps : List Str} (F : Fun K x qual st f fd)
    (hb : ∀ (kV doc pm : Value) (an : Option Addr) (cdv ct : Value) (us : List Value), us.length = ps.length → bindArgs (PySem.W.fnOf x qual (defArgs st) (defBody st) (defScope st) .none kV doc pm an cdv ct) ⟨us, []⟩ = pure (ps.zip us)) : L2.Binds K fd ps [] := by
  obtain ⟨oc, od, kV, doc, pm, an, cd, ct, sl, rfl, lk, hcd⟩ := F.ex
  exact .all (hb kV doc pm an cd ct)
theorem tab0 {H : Hp} {Pt : Addr} {q : Str} (h : H Pt = some (.tbl #[])) : TabS H Pt q := ⟨#[], h, trivial, fun pos cv hc => nomatch hc⟩
theorem tt_uniq : ∀ {ps : List (Addr × Str)} (h : (ps.map (·.1)).Nodup) {p q : Addr × Str} (hp : p ∈ ps) (hq : q ∈ ps) (e : p.1 = q.1), p.2 = q.2
  | [], _, _, _, hp, _, _ => nomatch hp
  | a :: r, h, p, q, hp, hq, e => by
    rw [List.map_cons, List.nodup_cons] at h
    rcases List.mem_cons.mp hp with e1 | hp1
    · rcases List.mem_cons.mp hq with e2 | hq1
      · rw [e1, e2]
      · exact (h.1 (List.mem_map.mpr ⟨q, hq1, by rw [← e1, e]⟩)).elim
    · rcases List.mem_cons.mp hq with e2 | hq1
      · exact (h.1 (List.mem_map.mpr ⟨p, hp1, by rw [← e2, e]⟩)).elim
      · exact tt_uniq h.2 hp1 hq1 e
theorem all_mk {l : PySem.W.OpenLaw} {w : World} {K : PySem.W.Frag} {h : Heap} {mg : Str → Option Value} {fa C0 C1 C2 C3 C4 C5 C6 C7 C8 C9 C10 C11 C12 C13 C14 C15 C16 C17 C18 C19 C20 C21 C22 C23 C24 C25 C26 CP CD ct0 Pt : Addr} (X : K.In h) (G : h.Ns mainGlobals mg) (hfa : mg "law" = some (.ref fa))
    {f1 : Addr} {od1 an1 : Option Addr} {sl1 : Array (Option Value)} {oc1 kV1 dc1 pm1 cd1 ct1 : Value}
    {f2 : Addr} {od2 an2 : Option Addr} {sl2 : Array (Option Value)} {oc2 kV2 dc2 pm2 cd2 ct2 : Value}
    {f3 : Addr} {od3 an3 : Option Addr} {sl3 : Array (Option Value)} {oc3 kV3 dc3 pm3 cd3 ct3 : Value}
    {f4 : Addr} {od4 an4 : Option Addr} {sl4 : Array (Option Value)} {oc4 kV4 dc4 pm4 cd4 ct4 : Value}
    {f5 : Addr} {od5 an5 : Option Addr} {sl5 : Array (Option Value)} {oc5 kV5 dc5 pm5 ct5 : Value}
    {f6 : Addr} {od6 an6 : Option Addr} {sl6 : Array (Option Value)} {oc6 kV6 dc6 pm6 cd6 ct6 : Value}
    {g_CD___bool__ : Addr} {od_CD___bool__ an_CD___bool__ : Option Addr} {sl_CD___bool__ : Array (Option Value)} {oc_CD___bool__ kV_CD___bool__ dc_CD___bool__ pm_CD___bool__ cd_CD___bool__ ct_CD___bool__ : Value}
    {g_C0___init__ : Addr} {od_C0___init__ an_C0___init__ : Option Addr} {sl_C0___init__ : Array (Option Value)} {oc_C0___init__ kV_C0___init__ dc_C0___init__ pm_C0___init__ cd_C0___init__ ct_C0___init__ : Value}
    {g_C0___eq__ : Addr} {od_C0___eq__ an_C0___eq__ : Option Addr} {sl_C0___eq__ : Array (Option Value)} {oc_C0___eq__ kV_C0___eq__ dc_C0___eq__ pm_C0___eq__ cd_C0___eq__ ct_C0___eq__ : Value}
    {g_C1___init__ : Addr} {od_C1___init__ an_C1___init__ : Option Addr} {sl_C1___init__ : Array (Option Value)} {oc_C1___init__ kV_C1___init__ dc_C1___init__ pm_C1___init__ cd_C1___init__ ct_C1___init__ : Value}
    {g_C1___eq__ : Addr} {od_C1___eq__ an_C1___eq__ : Option Addr} {sl_C1___eq__ : Array (Option Value)} {oc_C1___eq__ kV_C1___eq__ dc_C1___eq__ pm_C1___eq__ cd_C1___eq__ ct_C1___eq__ : Value}
    {g_C2___init__ : Addr} {od_C2___init__ an_C2___init__ : Option Addr} {sl_C2___init__ : Array (Option Value)} {oc_C2___init__ kV_C2___init__ dc_C2___init__ pm_C2___init__ cd_C2___init__ ct_C2___init__ : Value}
    {g_C2___eq__ : Addr} {od_C2___eq__ an_C2___eq__ : Option Addr} {sl_C2___eq__ : Array (Option Value)} {oc_C2___eq__ kV_C2___eq__ dc_C2___eq__ pm_C2___eq__ cd_C2___eq__ ct_C2___eq__ : Value}
    {g_C3___init__ : Addr} {od_C3___init__ an_C3___init__ : Option Addr} {sl_C3___init__ : Array (Option Value)} {oc_C3___init__ kV_C3___init__ dc_C3___init__ pm_C3___init__ cd_C3___init__ ct_C3___init__ : Value}
    {g_C3___eq__ : Addr} {od_C3___eq__ an_C3___eq__ : Option Addr} {sl_C3___eq__ : Array (Option Value)} {oc_C3___eq__ kV_C3___eq__ dc_C3___eq__ pm_C3___eq__ cd_C3___eq__ ct_C3___eq__ : Value}
    {g_C4___init__ : Addr} {od_C4___init__ an_C4___init__ : Option Addr} {sl_C4___init__ : Array (Option Value)} {oc_C4___init__ kV_C4___init__ dc_C4___init__ pm_C4___init__ cd_C4___init__ ct_C4___init__ : Value}
    {g_C4___eq__ : Addr} {od_C4___eq__ an_C4___eq__ : Option Addr} {sl_C4___eq__ : Array (Option Value)} {oc_C4___eq__ kV_C4___eq__ dc_C4___eq__ pm_C4___eq__ cd_C4___eq__ ct_C4___eq__ : Value}
    {g_C5___init__ : Addr} {od_C5___init__ an_C5___init__ : Option Addr} {sl_C5___init__ : Array (Option Value)} {oc_C5___init__ kV_C5___init__ dc_C5___init__ pm_C5___init__ cd_C5___init__ ct_C5___init__ : Value}
    {g_C5___eq__ : Addr} {od_C5___eq__ an_C5___eq__ : Option Addr} {sl_C5___eq__ : Array (Option Value)} {oc_C5___eq__ kV_C5___eq__ dc_C5___eq__ pm_C5___eq__ cd_C5___eq__ ct_C5___eq__ : Value}
    {g_C6___init__ : Addr} {od_C6___init__ an_C6___init__ : Option Addr} {sl_C6___init__ : Array (Option Value)} {oc_C6___init__ kV_C6___init__ dc_C6___init__ pm_C6___init__ cd_C6___init__ ct_C6___init__ : Value}
    {g_C6___eq__ : Addr} {od_C6___eq__ an_C6___eq__ : Option Addr} {sl_C6___eq__ : Array (Option Value)} {oc_C6___eq__ kV_C6___eq__ dc_C6___eq__ pm_C6___eq__ cd_C6___eq__ ct_C6___eq__ : Value}
    {g_C7___init__ : Addr} {od_C7___init__ an_C7___init__ : Option Addr} {sl_C7___init__ : Array (Option Value)} {oc_C7___init__ kV_C7___init__ dc_C7___init__ pm_C7___init__ cd_C7___init__ ct_C7___init__ : Value}
    {g_C7___eq__ : Addr} {od_C7___eq__ an_C7___eq__ : Option Addr} {sl_C7___eq__ : Array (Option Value)} {oc_C7___eq__ kV_C7___eq__ dc_C7___eq__ pm_C7___eq__ cd_C7___eq__ ct_C7___eq__ : Value}
    {g_C8___init__ : Addr} {od_C8___init__ an_C8___init__ : Option Addr} {sl_C8___init__ : Array (Option Value)} {oc_C8___init__ kV_C8___init__ dc_C8___init__ pm_C8___init__ cd_C8___init__ ct_C8___init__ : Value}
    {g_C8___eq__ : Addr} {od_C8___eq__ an_C8___eq__ : Option Addr} {sl_C8___eq__ : Array (Option Value)} {oc_C8___eq__ kV_C8___eq__ dc_C8___eq__ pm_C8___eq__ cd_C8___eq__ ct_C8___eq__ : Value}
    {g_C9___init__ : Addr} {od_C9___init__ an_C9___init__ : Option Addr} {sl_C9___init__ : Array (Option Value)} {oc_C9___init__ kV_C9___init__ dc_C9___init__ pm_C9___init__ cd_C9___init__ ct_C9___init__ : Value}
    {g_C9___eq__ : Addr} {od_C9___eq__ an_C9___eq__ : Option Addr} {sl_C9___eq__ : Array (Option Value)} {oc_C9___eq__ kV_C9___eq__ dc_C9___eq__ pm_C9___eq__ cd_C9___eq__ ct_C9___eq__ : Value}
    {g_C10___init__ : Addr} {od_C10___init__ an_C10___init__ : Option Addr} {sl_C10___init__ : Array (Option Value)} {oc_C10___init__ kV_C10___init__ dc_C10___init__ pm_C10___init__ cd_C10___init__ ct_C10___init__ : Value}
    {g_C10___eq__ : Addr} {od_C10___eq__ an_C10___eq__ : Option Addr} {sl_C10___eq__ : Array (Option Value)} {oc_C10___eq__ kV_C10___eq__ dc_C10___eq__ pm_C10___eq__ cd_C10___eq__ ct_C10___eq__ : Value}
    {g_C11___init__ : Addr} {od_C11___init__ an_C11___init__ : Option Addr} {sl_C11___init__ : Array (Option Value)} {oc_C11___init__ kV_C11___init__ dc_C11___init__ pm_C11___init__ cd_C11___init__ ct_C11___init__ : Value}
    {g_C11___eq__ : Addr} {od_C11___eq__ an_C11___eq__ : Option Addr} {sl_C11___eq__ : Array (Option Value)} {oc_C11___eq__ kV_C11___eq__ dc_C11___eq__ pm_C11___eq__ cd_C11___eq__ ct_C11___eq__ : Value}
    {g_C12___init__ : Addr} {od_C12___init__ an_C12___init__ : Option Addr} {sl_C12___init__ : Array (Option Value)} {oc_C12___init__ kV_C12___init__ dc_C12___init__ pm_C12___init__ cd_C12___init__ ct_C12___init__ : Value}
    {g_C12___eq__ : Addr} {od_C12___eq__ an_C12___eq__ : Option Addr} {sl_C12___eq__ : Array (Option Value)} {oc_C12___eq__ kV_C12___eq__ dc_C12___eq__ pm_C12___eq__ cd_C12___eq__ ct_C12___eq__ : Value}
    {g_C13___init__ : Addr} {od_C13___init__ an_C13___init__ : Option Addr} {sl_C13___init__ : Array (Option Value)} {oc_C13___init__ kV_C13___init__ dc_C13___init__ pm_C13___init__ cd_C13___init__ ct_C13___init__ : Value}
    {g_C13___eq__ : Addr} {od_C13___eq__ an_C13___eq__ : Option Addr} {sl_C13___eq__ : Array (Option Value)} {oc_C13___eq__ kV_C13___eq__ dc_C13___eq__ pm_C13___eq__ cd_C13___eq__ ct_C13___eq__ : Value}
    {g_C14___init__ : Addr} {od_C14___init__ an_C14___init__ : Option Addr} {sl_C14___init__ : Array (Option Value)} {oc_C14___init__ kV_C14___init__ dc_C14___init__ pm_C14___init__ cd_C14___init__ ct_C14___init__ : Value}
    {g_C14___eq__ : Addr} {od_C14___eq__ an_C14___eq__ : Option Addr} {sl_C14___eq__ : Array (Option Value)} {oc_C14___eq__ kV_C14___eq__ dc_C14___eq__ pm_C14___eq__ cd_C14___eq__ ct_C14___eq__ : Value}
    {g_C15___init__ : Addr} {od_C15___init__ an_C15___init__ : Option Addr} {sl_C15___init__ : Array (Option Value)} {oc_C15___init__ kV_C15___init__ dc_C15___init__ pm_C15___init__ cd_C15___init__ ct_C15___init__ : Value}
    {g_C15___eq__ : Addr} {od_C15___eq__ an_C15___eq__ : Option Addr} {sl_C15___eq__ : Array (Option Value)} {oc_C15___eq__ kV_C15___eq__ dc_C15___eq__ pm_C15___eq__ cd_C15___eq__ ct_C15___eq__ : Value}
    {g_C16___init__ : Addr} {od_C16___init__ an_C16___init__ : Option Addr} {sl_C16___init__ : Array (Option Value)} {oc_C16___init__ kV_C16___init__ dc_C16___init__ pm_C16___init__ cd_C16___init__ ct_C16___init__ : Value}
    {g_C16___eq__ : Addr} {od_C16___eq__ an_C16___eq__ : Option Addr} {sl_C16___eq__ : Array (Option Value)} {oc_C16___eq__ kV_C16___eq__ dc_C16___eq__ pm_C16___eq__ cd_C16___eq__ ct_C16___eq__ : Value}
    {g_C17___init__ : Addr} {od_C17___init__ an_C17___init__ : Option Addr} {sl_C17___init__ : Array (Option Value)} {oc_C17___init__ kV_C17___init__ dc_C17___init__ pm_C17___init__ cd_C17___init__ ct_C17___init__ : Value}
    {g_C17___eq__ : Addr} {od_C17___eq__ an_C17___eq__ : Option Addr} {sl_C17___eq__ : Array (Option Value)} {oc_C17___eq__ kV_C17___eq__ dc_C17___eq__ pm_C17___eq__ cd_C17___eq__ ct_C17___eq__ : Value}
    {g_C18___init__ : Addr} {od_C18___init__ an_C18___init__ : Option Addr} {sl_C18___init__ : Array (Option Value)} {oc_C18___init__ kV_C18___init__ dc_C18___init__ pm_C18___init__ cd_C18___init__ ct_C18___init__ : Value}
    {g_C18___eq__ : Addr} {od_C18___eq__ an_C18___eq__ : Option Addr} {sl_C18___eq__ : Array (Option Value)} {oc_C18___eq__ kV_C18___eq__ dc_C18___eq__ pm_C18___eq__ cd_C18___eq__ ct_C18___eq__ : Value}
    {g_C19___init__ : Addr} {od_C19___init__ an_C19___init__ : Option Addr} {sl_C19___init__ : Array (Option Value)} {oc_C19___init__ kV_C19___init__ dc_C19___init__ pm_C19___init__ cd_C19___init__ ct_C19___init__ : Value}
    {g_C19___eq__ : Addr} {od_C19___eq__ an_C19___eq__ : Option Addr} {sl_C19___eq__ : Array (Option Value)} {oc_C19___eq__ kV_C19___eq__ dc_C19___eq__ pm_C19___eq__ cd_C19___eq__ ct_C19___eq__ : Value}
    {g_C20___init__ : Addr} {od_C20___init__ an_C20___init__ : Option Addr} {sl_C20___init__ : Array (Option Value)} {oc_C20___init__ kV_C20___init__ dc_C20___init__ pm_C20___init__ cd_C20___init__ ct_C20___init__ : Value}
    {g_C20___eq__ : Addr} {od_C20___eq__ an_C20___eq__ : Option Addr} {sl_C20___eq__ : Array (Option Value)} {oc_C20___eq__ kV_C20___eq__ dc_C20___eq__ pm_C20___eq__ cd_C20___eq__ ct_C20___eq__ : Value}
    {g_C21___init__ : Addr} {od_C21___init__ an_C21___init__ : Option Addr} {sl_C21___init__ : Array (Option Value)} {oc_C21___init__ kV_C21___init__ dc_C21___init__ pm_C21___init__ cd_C21___init__ ct_C21___init__ : Value}
    {g_C21___eq__ : Addr} {od_C21___eq__ an_C21___eq__ : Option Addr} {sl_C21___eq__ : Array (Option Value)} {oc_C21___eq__ kV_C21___eq__ dc_C21___eq__ pm_C21___eq__ cd_C21___eq__ ct_C21___eq__ : Value}
    {g_C22___init__ : Addr} {od_C22___init__ an_C22___init__ : Option Addr} {sl_C22___init__ : Array (Option Value)} {oc_C22___init__ kV_C22___init__ dc_C22___init__ pm_C22___init__ cd_C22___init__ ct_C22___init__ : Value}
    {g_C22___eq__ : Addr} {od_C22___eq__ an_C22___eq__ : Option Addr} {sl_C22___eq__ : Array (Option Value)} {oc_C22___eq__ kV_C22___eq__ dc_C22___eq__ pm_C22___eq__ cd_C22___eq__ ct_C22___eq__ : Value}
    {g_C23___init__ : Addr} {od_C23___init__ an_C23___init__ : Option Addr} {sl_C23___init__ : Array (Option Value)} {oc_C23___init__ kV_C23___init__ dc_C23___init__ pm_C23___init__ cd_C23___init__ ct_C23___init__ : Value}
    {g_C23___eq__ : Addr} {od_C23___eq__ an_C23___eq__ : Option Addr} {sl_C23___eq__ : Array (Option Value)} {oc_C23___eq__ kV_C23___eq__ dc_C23___eq__ pm_C23___eq__ cd_C23___eq__ ct_C23___eq__ : Value}
    {g_C24___init__ : Addr} {od_C24___init__ an_C24___init__ : Option Addr} {sl_C24___init__ : Array (Option Value)} {oc_C24___init__ kV_C24___init__ dc_C24___init__ pm_C24___init__ cd_C24___init__ ct_C24___init__ : Value}
    {g_C24___eq__ : Addr} {od_C24___eq__ an_C24___eq__ : Option Addr} {sl_C24___eq__ : Array (Option Value)} {oc_C24___eq__ kV_C24___eq__ dc_C24___eq__ pm_C24___eq__ cd_C24___eq__ ct_C24___eq__ : Value}
    {g_C25___init__ : Addr} {od_C25___init__ an_C25___init__ : Option Addr} {sl_C25___init__ : Array (Option Value)} {oc_C25___init__ kV_C25___init__ dc_C25___init__ pm_C25___init__ cd_C25___init__ ct_C25___init__ : Value}
    {g_C25___eq__ : Addr} {od_C25___eq__ an_C25___eq__ : Option Addr} {sl_C25___eq__ : Array (Option Value)} {oc_C25___eq__ kV_C25___eq__ dc_C25___eq__ pm_C25___eq__ cd_C25___eq__ ct_C25___eq__ : Value}
    {g_C26___init__ : Addr} {od_C26___init__ an_C26___init__ : Option Addr} {sl_C26___init__ : Array (Option Value)} {oc_C26___init__ kV_C26___init__ dc_C26___init__ pm_C26___init__ cd_C26___init__ ct_C26___init__ : Value}
    {g_C26___eq__ : Addr} {od_C26___eq__ an_C26___eq__ : Option Addr} {sl_C26___eq__ : Array (Option Value)} {oc_C26___eq__ kV_C26___eq__ dc_C26___eq__ pm_C26___eq__ cd_C26___eq__ ct_C26___eq__ : Value}
    {g_C26_own_row : Addr} {od_C26_own_row an_C26_own_row : Option Addr} {sl_C26_own_row : Array (Option Value)} {oc_C26_own_row kV_C26_own_row dc_C26_own_row pm_C26_own_row cd_C26_own_row ct_C26_own_row : Value}
    (a1 : PySem.W.nsIn K mainGlobals "_law_pen" = some (some (.ref f1)))
    (l1 : K.lookup f1 = some ⟨oc1, od1, .func (PySem.W.fnOf "_law_pen" "_law_pen" (defArgs s__law_pen) (defBody s__law_pen) (defScope s__law_pen) .none kV1 dc1 pm1 an1 cd1 ct1), sl1⟩)
    (c1 : PySem.W.codeIn K cd1 "_law_pen" = true)
    (k1 : PySem.W.keepIn K (.ref f1) = true)
    (a2 : PySem.W.nsIn K mainGlobals "_law_draw" = some (some (.ref f2)))
    (l2 : K.lookup f2 = some ⟨oc2, od2, .func (PySem.W.fnOf "_law_draw" "_law_draw" (defArgs s__law_draw) (defBody s__law_draw) (defScope s__law_draw) .none kV2 dc2 pm2 an2 cd2 ct2), sl2⟩)
    (c2 : PySem.W.codeIn K cd2 "_law_draw" = true)
    (k2 : PySem.W.keepIn K (.ref f2) = true)
    (a3 : PySem.W.nsIn K mainGlobals "_law_pick" = some (some (.ref f3)))
    (l3 : K.lookup f3 = some ⟨oc3, od3, .func (PySem.W.fnOf "_law_pick" "_law_pick" (defArgs s__law_pick) (defBody s__law_pick) (defScope s__law_pick) .none kV3 dc3 pm3 an3 cd3 ct3), sl3⟩)
    (c3 : PySem.W.codeIn K cd3 "_law_pick" = true)
    (k3 : PySem.W.keepIn K (.ref f3) = true)
    (a4 : PySem.W.nsIn K mainGlobals "_law_value" = some (some (.ref f4)))
    (l4 : K.lookup f4 = some ⟨oc4, od4, .func (PySem.W.fnOf "_law_value" "_law_value" (defArgs s__law_value) (defBody s__law_value) (defScope s__law_value) .none kV4 dc4 pm4 an4 cd4 ct4), sl4⟩)
    (c4 : PySem.W.codeIn K cd4 "_law_value" = true)
    (k4 : PySem.W.keepIn K (.ref f4) = true)
    (a5 : PySem.W.nsIn K mainGlobals "_law_made" = some (some (.ref f5)))
    (l5 : K.lookup f5 = some ⟨oc5, od5, .func (PySem.W.fnOf "_law_made" "_law_made" (defArgs s__law_made) (defBody s__law_made) (defScope s__law_made) .none kV5 dc5 pm5 an5 (.ref ct0) ct5), sl5⟩)
    (c5 : PySem.W.codeIn K (.ref ct0) "_law_made" = true)
    (k5 : PySem.W.keepIn K (.ref f5) = true)
    (a6 : PySem.W.nsIn K mainGlobals "law" = some (some (.ref f6)))
    (l6 : K.lookup f6 = some ⟨oc6, od6, .func (PySem.W.fnOf "law" "law" (defArgs s_law) (defBody s_law) (defScope s_law) .none kV6 dc6 pm6 an6 cd6 ct6), sl6⟩)
    (c6 : PySem.W.codeIn K cd6 "law" = true)
    (k6 : PySem.W.keepIn K (.ref f6) = true)
    (a_CP : PySem.W.nsIn K mainGlobals "Paper" = some (some (.ref CP)))
    (a_CD : PySem.W.nsIn K mainGlobals "Denial" = some (some (.ref CD)))
    (a_CD___bool__ : PySem.W.findIn K (.ref CD) "__bool__" = some (some (.ref g_CD___bool__)))
    (l_CD___bool__ : K.lookup g_CD___bool__ = some ⟨oc_CD___bool__, od_CD___bool__, .func (PySem.W.fnOf "__bool__" "Denial.__bool__" (defArgs s_Denial___bool__) (defBody s_Denial___bool__) (defScope s_Denial___bool__) .none kV_CD___bool__ dc_CD___bool__ pm_CD___bool__ an_CD___bool__ cd_CD___bool__ ct_CD___bool__), sl_CD___bool__⟩)
    (c_CD___bool__ : PySem.W.codeIn K cd_CD___bool__ "Denial.__bool__" = true)
    (k_CD___bool__ : PySem.W.keepIn K (.ref g_CD___bool__) = true)
    (i_CD___bool__ : PySem.W.isFn K (.ref g_CD___bool__) = true)
    (a_C0 : PySem.W.nsIn K mainGlobals "Fewest" = some (some (.ref C0)))
    (a_C0___init__ : PySem.W.findIn K (.ref C0) "__init__" = some (some (.ref g_C0___init__)))
    (l_C0___init__ : K.lookup g_C0___init__ = some ⟨oc_C0___init__, od_C0___init__, .func (PySem.W.fnOf "__init__" "Fewest.__init__" (defArgs s_Fewest___init__) (defBody s_Fewest___init__) (defScope s_Fewest___init__) .none kV_C0___init__ dc_C0___init__ pm_C0___init__ an_C0___init__ cd_C0___init__ ct_C0___init__), sl_C0___init__⟩)
    (c_C0___init__ : PySem.W.codeIn K cd_C0___init__ "Fewest.__init__" = true)
    (k_C0___init__ : PySem.W.keepIn K (.ref g_C0___init__) = true)
    (i_C0___init__ : PySem.W.isFn K (.ref g_C0___init__) = true)
    (a_C0___eq__ : PySem.W.findIn K (.ref C0) "__eq__" = some (some (.ref g_C0___eq__)))
    (l_C0___eq__ : K.lookup g_C0___eq__ = some ⟨oc_C0___eq__, od_C0___eq__, .func (PySem.W.fnOf "__eq__" "Fewest.__eq__" (defArgs s_Fewest___eq__) (defBody s_Fewest___eq__) (defScope s_Fewest___eq__) .none kV_C0___eq__ dc_C0___eq__ pm_C0___eq__ an_C0___eq__ cd_C0___eq__ ct_C0___eq__), sl_C0___eq__⟩)
    (c_C0___eq__ : PySem.W.codeIn K cd_C0___eq__ "Fewest.__eq__" = true)
    (k_C0___eq__ : PySem.W.keepIn K (.ref g_C0___eq__) = true)
    (i_C0___eq__ : PySem.W.isFn K (.ref g_C0___eq__) = true)
    (mk_C0 : PySem.W.makesIn K C0 = true)
    (kc_C0 : PySem.W.keepIn K (.ref C0) = true)
    (a_C1 : PySem.W.nsIn K mainGlobals "NoList" = some (some (.ref C1)))
    (a_C1___init__ : PySem.W.findIn K (.ref C1) "__init__" = some (some (.ref g_C1___init__)))
    (l_C1___init__ : K.lookup g_C1___init__ = some ⟨oc_C1___init__, od_C1___init__, .func (PySem.W.fnOf "__init__" "NoList.__init__" (defArgs s_NoList___init__) (defBody s_NoList___init__) (defScope s_NoList___init__) .none kV_C1___init__ dc_C1___init__ pm_C1___init__ an_C1___init__ cd_C1___init__ ct_C1___init__), sl_C1___init__⟩)
    (c_C1___init__ : PySem.W.codeIn K cd_C1___init__ "NoList.__init__" = true)
    (k_C1___init__ : PySem.W.keepIn K (.ref g_C1___init__) = true)
    (i_C1___init__ : PySem.W.isFn K (.ref g_C1___init__) = true)
    (a_C1___eq__ : PySem.W.findIn K (.ref C1) "__eq__" = some (some (.ref g_C1___eq__)))
    (l_C1___eq__ : K.lookup g_C1___eq__ = some ⟨oc_C1___eq__, od_C1___eq__, .func (PySem.W.fnOf "__eq__" "NoList.__eq__" (defArgs s_NoList___eq__) (defBody s_NoList___eq__) (defScope s_NoList___eq__) .none kV_C1___eq__ dc_C1___eq__ pm_C1___eq__ an_C1___eq__ cd_C1___eq__ ct_C1___eq__), sl_C1___eq__⟩)
    (c_C1___eq__ : PySem.W.codeIn K cd_C1___eq__ "NoList.__eq__" = true)
    (k_C1___eq__ : PySem.W.keepIn K (.ref g_C1___eq__) = true)
    (i_C1___eq__ : PySem.W.isFn K (.ref g_C1___eq__) = true)
    (mk_C1 : PySem.W.makesIn K C1 = true)
    (kc_C1 : PySem.W.keepIn K (.ref C1) = true)
    (a_C2 : PySem.W.nsIn K mainGlobals "Greatest" = some (some (.ref C2)))
    (a_C2___init__ : PySem.W.findIn K (.ref C2) "__init__" = some (some (.ref g_C2___init__)))
    (l_C2___init__ : K.lookup g_C2___init__ = some ⟨oc_C2___init__, od_C2___init__, .func (PySem.W.fnOf "__init__" "Greatest.__init__" (defArgs s_Greatest___init__) (defBody s_Greatest___init__) (defScope s_Greatest___init__) .none kV_C2___init__ dc_C2___init__ pm_C2___init__ an_C2___init__ cd_C2___init__ ct_C2___init__), sl_C2___init__⟩)
    (c_C2___init__ : PySem.W.codeIn K cd_C2___init__ "Greatest.__init__" = true)
    (k_C2___init__ : PySem.W.keepIn K (.ref g_C2___init__) = true)
    (i_C2___init__ : PySem.W.isFn K (.ref g_C2___init__) = true)
    (a_C2___eq__ : PySem.W.findIn K (.ref C2) "__eq__" = some (some (.ref g_C2___eq__)))
    (l_C2___eq__ : K.lookup g_C2___eq__ = some ⟨oc_C2___eq__, od_C2___eq__, .func (PySem.W.fnOf "__eq__" "Greatest.__eq__" (defArgs s_Greatest___eq__) (defBody s_Greatest___eq__) (defScope s_Greatest___eq__) .none kV_C2___eq__ dc_C2___eq__ pm_C2___eq__ an_C2___eq__ cd_C2___eq__ ct_C2___eq__), sl_C2___eq__⟩)
    (c_C2___eq__ : PySem.W.codeIn K cd_C2___eq__ "Greatest.__eq__" = true)
    (k_C2___eq__ : PySem.W.keepIn K (.ref g_C2___eq__) = true)
    (i_C2___eq__ : PySem.W.isFn K (.ref g_C2___eq__) = true)
    (mk_C2 : PySem.W.makesIn K C2 = true)
    (kc_C2 : PySem.W.keepIn K (.ref C2) = true)
    (a_C3 : PySem.W.nsIn K mainGlobals "Least" = some (some (.ref C3)))
    (a_C3___init__ : PySem.W.findIn K (.ref C3) "__init__" = some (some (.ref g_C3___init__)))
    (l_C3___init__ : K.lookup g_C3___init__ = some ⟨oc_C3___init__, od_C3___init__, .func (PySem.W.fnOf "__init__" "Least.__init__" (defArgs s_Least___init__) (defBody s_Least___init__) (defScope s_Least___init__) .none kV_C3___init__ dc_C3___init__ pm_C3___init__ an_C3___init__ cd_C3___init__ ct_C3___init__), sl_C3___init__⟩)
    (c_C3___init__ : PySem.W.codeIn K cd_C3___init__ "Least.__init__" = true)
    (k_C3___init__ : PySem.W.keepIn K (.ref g_C3___init__) = true)
    (i_C3___init__ : PySem.W.isFn K (.ref g_C3___init__) = true)
    (a_C3___eq__ : PySem.W.findIn K (.ref C3) "__eq__" = some (some (.ref g_C3___eq__)))
    (l_C3___eq__ : K.lookup g_C3___eq__ = some ⟨oc_C3___eq__, od_C3___eq__, .func (PySem.W.fnOf "__eq__" "Least.__eq__" (defArgs s_Least___eq__) (defBody s_Least___eq__) (defScope s_Least___eq__) .none kV_C3___eq__ dc_C3___eq__ pm_C3___eq__ an_C3___eq__ cd_C3___eq__ ct_C3___eq__), sl_C3___eq__⟩)
    (c_C3___eq__ : PySem.W.codeIn K cd_C3___eq__ "Least.__eq__" = true)
    (k_C3___eq__ : PySem.W.keepIn K (.ref g_C3___eq__) = true)
    (i_C3___eq__ : PySem.W.isFn K (.ref g_C3___eq__) = true)
    (mk_C3 : PySem.W.makesIn K C3 = true)
    (kc_C3 : PySem.W.keepIn K (.ref C3) = true)
    (a_C4 : PySem.W.nsIn K mainGlobals "BatchBound" = some (some (.ref C4)))
    (a_C4___init__ : PySem.W.findIn K (.ref C4) "__init__" = some (some (.ref g_C4___init__)))
    (l_C4___init__ : K.lookup g_C4___init__ = some ⟨oc_C4___init__, od_C4___init__, .func (PySem.W.fnOf "__init__" "BatchBound.__init__" (defArgs s_BatchBound___init__) (defBody s_BatchBound___init__) (defScope s_BatchBound___init__) .none kV_C4___init__ dc_C4___init__ pm_C4___init__ an_C4___init__ cd_C4___init__ ct_C4___init__), sl_C4___init__⟩)
    (c_C4___init__ : PySem.W.codeIn K cd_C4___init__ "BatchBound.__init__" = true)
    (k_C4___init__ : PySem.W.keepIn K (.ref g_C4___init__) = true)
    (i_C4___init__ : PySem.W.isFn K (.ref g_C4___init__) = true)
    (a_C4___eq__ : PySem.W.findIn K (.ref C4) "__eq__" = some (some (.ref g_C4___eq__)))
    (l_C4___eq__ : K.lookup g_C4___eq__ = some ⟨oc_C4___eq__, od_C4___eq__, .func (PySem.W.fnOf "__eq__" "BatchBound.__eq__" (defArgs s_BatchBound___eq__) (defBody s_BatchBound___eq__) (defScope s_BatchBound___eq__) .none kV_C4___eq__ dc_C4___eq__ pm_C4___eq__ an_C4___eq__ cd_C4___eq__ ct_C4___eq__), sl_C4___eq__⟩)
    (c_C4___eq__ : PySem.W.codeIn K cd_C4___eq__ "BatchBound.__eq__" = true)
    (k_C4___eq__ : PySem.W.keepIn K (.ref g_C4___eq__) = true)
    (i_C4___eq__ : PySem.W.isFn K (.ref g_C4___eq__) = true)
    (mk_C4 : PySem.W.makesIn K C4 = true)
    (kc_C4 : PySem.W.keepIn K (.ref C4) = true)
    (a_C5 : PySem.W.nsIn K mainGlobals "BatchEndless" = some (some (.ref C5)))
    (a_C5___init__ : PySem.W.findIn K (.ref C5) "__init__" = some (some (.ref g_C5___init__)))
    (l_C5___init__ : K.lookup g_C5___init__ = some ⟨oc_C5___init__, od_C5___init__, .func (PySem.W.fnOf "__init__" "BatchEndless.__init__" (defArgs s_BatchEndless___init__) (defBody s_BatchEndless___init__) (defScope s_BatchEndless___init__) .none kV_C5___init__ dc_C5___init__ pm_C5___init__ an_C5___init__ cd_C5___init__ ct_C5___init__), sl_C5___init__⟩)
    (c_C5___init__ : PySem.W.codeIn K cd_C5___init__ "BatchEndless.__init__" = true)
    (k_C5___init__ : PySem.W.keepIn K (.ref g_C5___init__) = true)
    (i_C5___init__ : PySem.W.isFn K (.ref g_C5___init__) = true)
    (a_C5___eq__ : PySem.W.findIn K (.ref C5) "__eq__" = some (some (.ref g_C5___eq__)))
    (l_C5___eq__ : K.lookup g_C5___eq__ = some ⟨oc_C5___eq__, od_C5___eq__, .func (PySem.W.fnOf "__eq__" "BatchEndless.__eq__" (defArgs s_BatchEndless___eq__) (defBody s_BatchEndless___eq__) (defScope s_BatchEndless___eq__) .none kV_C5___eq__ dc_C5___eq__ pm_C5___eq__ an_C5___eq__ cd_C5___eq__ ct_C5___eq__), sl_C5___eq__⟩)
    (c_C5___eq__ : PySem.W.codeIn K cd_C5___eq__ "BatchEndless.__eq__" = true)
    (k_C5___eq__ : PySem.W.keepIn K (.ref g_C5___eq__) = true)
    (i_C5___eq__ : PySem.W.isFn K (.ref g_C5___eq__) = true)
    (mk_C5 : PySem.W.makesIn K C5 = true)
    (kc_C5 : PySem.W.keepIn K (.ref C5) = true)
    (a_C6 : PySem.W.nsIn K mainGlobals "NeverLess" = some (some (.ref C6)))
    (a_C6___init__ : PySem.W.findIn K (.ref C6) "__init__" = some (some (.ref g_C6___init__)))
    (l_C6___init__ : K.lookup g_C6___init__ = some ⟨oc_C6___init__, od_C6___init__, .func (PySem.W.fnOf "__init__" "NeverLess.__init__" (defArgs s_NeverLess___init__) (defBody s_NeverLess___init__) (defScope s_NeverLess___init__) .none kV_C6___init__ dc_C6___init__ pm_C6___init__ an_C6___init__ cd_C6___init__ ct_C6___init__), sl_C6___init__⟩)
    (c_C6___init__ : PySem.W.codeIn K cd_C6___init__ "NeverLess.__init__" = true)
    (k_C6___init__ : PySem.W.keepIn K (.ref g_C6___init__) = true)
    (i_C6___init__ : PySem.W.isFn K (.ref g_C6___init__) = true)
    (a_C6___eq__ : PySem.W.findIn K (.ref C6) "__eq__" = some (some (.ref g_C6___eq__)))
    (l_C6___eq__ : K.lookup g_C6___eq__ = some ⟨oc_C6___eq__, od_C6___eq__, .func (PySem.W.fnOf "__eq__" "NeverLess.__eq__" (defArgs s_NeverLess___eq__) (defBody s_NeverLess___eq__) (defScope s_NeverLess___eq__) .none kV_C6___eq__ dc_C6___eq__ pm_C6___eq__ an_C6___eq__ cd_C6___eq__ ct_C6___eq__), sl_C6___eq__⟩)
    (c_C6___eq__ : PySem.W.codeIn K cd_C6___eq__ "NeverLess.__eq__" = true)
    (k_C6___eq__ : PySem.W.keepIn K (.ref g_C6___eq__) = true)
    (i_C6___eq__ : PySem.W.isFn K (.ref g_C6___eq__) = true)
    (mk_C6 : PySem.W.makesIn K C6 = true)
    (kc_C6 : PySem.W.keepIn K (.ref C6) = true)
    (a_C7 : PySem.W.nsIn K mainGlobals "Less" = some (some (.ref C7)))
    (a_C7___init__ : PySem.W.findIn K (.ref C7) "__init__" = some (some (.ref g_C7___init__)))
    (l_C7___init__ : K.lookup g_C7___init__ = some ⟨oc_C7___init__, od_C7___init__, .func (PySem.W.fnOf "__init__" "Less.__init__" (defArgs s_Less___init__) (defBody s_Less___init__) (defScope s_Less___init__) .none kV_C7___init__ dc_C7___init__ pm_C7___init__ an_C7___init__ cd_C7___init__ ct_C7___init__), sl_C7___init__⟩)
    (c_C7___init__ : PySem.W.codeIn K cd_C7___init__ "Less.__init__" = true)
    (k_C7___init__ : PySem.W.keepIn K (.ref g_C7___init__) = true)
    (i_C7___init__ : PySem.W.isFn K (.ref g_C7___init__) = true)
    (a_C7___eq__ : PySem.W.findIn K (.ref C7) "__eq__" = some (some (.ref g_C7___eq__)))
    (l_C7___eq__ : K.lookup g_C7___eq__ = some ⟨oc_C7___eq__, od_C7___eq__, .func (PySem.W.fnOf "__eq__" "Less.__eq__" (defArgs s_Less___eq__) (defBody s_Less___eq__) (defScope s_Less___eq__) .none kV_C7___eq__ dc_C7___eq__ pm_C7___eq__ an_C7___eq__ cd_C7___eq__ ct_C7___eq__), sl_C7___eq__⟩)
    (c_C7___eq__ : PySem.W.codeIn K cd_C7___eq__ "Less.__eq__" = true)
    (k_C7___eq__ : PySem.W.keepIn K (.ref g_C7___eq__) = true)
    (i_C7___eq__ : PySem.W.isFn K (.ref g_C7___eq__) = true)
    (mk_C7 : PySem.W.makesIn K C7 = true)
    (kc_C7 : PySem.W.keepIn K (.ref C7) = true)
    (a_C8 : PySem.W.nsIn K mainGlobals "Steady" = some (some (.ref C8)))
    (a_C8___init__ : PySem.W.findIn K (.ref C8) "__init__" = some (some (.ref g_C8___init__)))
    (l_C8___init__ : K.lookup g_C8___init__ = some ⟨oc_C8___init__, od_C8___init__, .func (PySem.W.fnOf "__init__" "Steady.__init__" (defArgs s_Steady___init__) (defBody s_Steady___init__) (defScope s_Steady___init__) .none kV_C8___init__ dc_C8___init__ pm_C8___init__ an_C8___init__ cd_C8___init__ ct_C8___init__), sl_C8___init__⟩)
    (c_C8___init__ : PySem.W.codeIn K cd_C8___init__ "Steady.__init__" = true)
    (k_C8___init__ : PySem.W.keepIn K (.ref g_C8___init__) = true)
    (i_C8___init__ : PySem.W.isFn K (.ref g_C8___init__) = true)
    (a_C8___eq__ : PySem.W.findIn K (.ref C8) "__eq__" = some (some (.ref g_C8___eq__)))
    (l_C8___eq__ : K.lookup g_C8___eq__ = some ⟨oc_C8___eq__, od_C8___eq__, .func (PySem.W.fnOf "__eq__" "Steady.__eq__" (defArgs s_Steady___eq__) (defBody s_Steady___eq__) (defScope s_Steady___eq__) .none kV_C8___eq__ dc_C8___eq__ pm_C8___eq__ an_C8___eq__ cd_C8___eq__ ct_C8___eq__), sl_C8___eq__⟩)
    (c_C8___eq__ : PySem.W.codeIn K cd_C8___eq__ "Steady.__eq__" = true)
    (k_C8___eq__ : PySem.W.keepIn K (.ref g_C8___eq__) = true)
    (i_C8___eq__ : PySem.W.isFn K (.ref g_C8___eq__) = true)
    (mk_C8 : PySem.W.makesIn K C8 = true)
    (kc_C8 : PySem.W.keepIn K (.ref C8) = true)
    (a_C9 : PySem.W.nsIn K mainGlobals "Jump" = some (some (.ref C9)))
    (a_C9___init__ : PySem.W.findIn K (.ref C9) "__init__" = some (some (.ref g_C9___init__)))
    (l_C9___init__ : K.lookup g_C9___init__ = some ⟨oc_C9___init__, od_C9___init__, .func (PySem.W.fnOf "__init__" "Jump.__init__" (defArgs s_Jump___init__) (defBody s_Jump___init__) (defScope s_Jump___init__) .none kV_C9___init__ dc_C9___init__ pm_C9___init__ an_C9___init__ cd_C9___init__ ct_C9___init__), sl_C9___init__⟩)
    (c_C9___init__ : PySem.W.codeIn K cd_C9___init__ "Jump.__init__" = true)
    (k_C9___init__ : PySem.W.keepIn K (.ref g_C9___init__) = true)
    (i_C9___init__ : PySem.W.isFn K (.ref g_C9___init__) = true)
    (a_C9___eq__ : PySem.W.findIn K (.ref C9) "__eq__" = some (some (.ref g_C9___eq__)))
    (l_C9___eq__ : K.lookup g_C9___eq__ = some ⟨oc_C9___eq__, od_C9___eq__, .func (PySem.W.fnOf "__eq__" "Jump.__eq__" (defArgs s_Jump___eq__) (defBody s_Jump___eq__) (defScope s_Jump___eq__) .none kV_C9___eq__ dc_C9___eq__ pm_C9___eq__ an_C9___eq__ cd_C9___eq__ ct_C9___eq__), sl_C9___eq__⟩)
    (c_C9___eq__ : PySem.W.codeIn K cd_C9___eq__ "Jump.__eq__" = true)
    (k_C9___eq__ : PySem.W.keepIn K (.ref g_C9___eq__) = true)
    (i_C9___eq__ : PySem.W.isFn K (.ref g_C9___eq__) = true)
    (mk_C9 : PySem.W.makesIn K C9 = true)
    (kc_C9 : PySem.W.keepIn K (.ref C9) = true)
    (a_C10 : PySem.W.nsIn K mainGlobals "Same" = some (some (.ref C10)))
    (a_C10___init__ : PySem.W.findIn K (.ref C10) "__init__" = some (some (.ref g_C10___init__)))
    (l_C10___init__ : K.lookup g_C10___init__ = some ⟨oc_C10___init__, od_C10___init__, .func (PySem.W.fnOf "__init__" "Same.__init__" (defArgs s_Same___init__) (defBody s_Same___init__) (defScope s_Same___init__) .none kV_C10___init__ dc_C10___init__ pm_C10___init__ an_C10___init__ cd_C10___init__ ct_C10___init__), sl_C10___init__⟩)
    (c_C10___init__ : PySem.W.codeIn K cd_C10___init__ "Same.__init__" = true)
    (k_C10___init__ : PySem.W.keepIn K (.ref g_C10___init__) = true)
    (i_C10___init__ : PySem.W.isFn K (.ref g_C10___init__) = true)
    (a_C10___eq__ : PySem.W.findIn K (.ref C10) "__eq__" = some (some (.ref g_C10___eq__)))
    (l_C10___eq__ : K.lookup g_C10___eq__ = some ⟨oc_C10___eq__, od_C10___eq__, .func (PySem.W.fnOf "__eq__" "Same.__eq__" (defArgs s_Same___eq__) (defBody s_Same___eq__) (defScope s_Same___eq__) .none kV_C10___eq__ dc_C10___eq__ pm_C10___eq__ an_C10___eq__ cd_C10___eq__ ct_C10___eq__), sl_C10___eq__⟩)
    (c_C10___eq__ : PySem.W.codeIn K cd_C10___eq__ "Same.__eq__" = true)
    (k_C10___eq__ : PySem.W.keepIn K (.ref g_C10___eq__) = true)
    (i_C10___eq__ : PySem.W.isFn K (.ref g_C10___eq__) = true)
    (mk_C10 : PySem.W.makesIn K C10 = true)
    (kc_C10 : PySem.W.keepIn K (.ref C10) = true)
    (a_C11 : PySem.W.nsIn K mainGlobals "Other" = some (some (.ref C11)))
    (a_C11___init__ : PySem.W.findIn K (.ref C11) "__init__" = some (some (.ref g_C11___init__)))
    (l_C11___init__ : K.lookup g_C11___init__ = some ⟨oc_C11___init__, od_C11___init__, .func (PySem.W.fnOf "__init__" "Other.__init__" (defArgs s_Other___init__) (defBody s_Other___init__) (defScope s_Other___init__) .none kV_C11___init__ dc_C11___init__ pm_C11___init__ an_C11___init__ cd_C11___init__ ct_C11___init__), sl_C11___init__⟩)
    (c_C11___init__ : PySem.W.codeIn K cd_C11___init__ "Other.__init__" = true)
    (k_C11___init__ : PySem.W.keepIn K (.ref g_C11___init__) = true)
    (i_C11___init__ : PySem.W.isFn K (.ref g_C11___init__) = true)
    (a_C11___eq__ : PySem.W.findIn K (.ref C11) "__eq__" = some (some (.ref g_C11___eq__)))
    (l_C11___eq__ : K.lookup g_C11___eq__ = some ⟨oc_C11___eq__, od_C11___eq__, .func (PySem.W.fnOf "__eq__" "Other.__eq__" (defArgs s_Other___eq__) (defBody s_Other___eq__) (defScope s_Other___eq__) .none kV_C11___eq__ dc_C11___eq__ pm_C11___eq__ an_C11___eq__ cd_C11___eq__ ct_C11___eq__), sl_C11___eq__⟩)
    (c_C11___eq__ : PySem.W.codeIn K cd_C11___eq__ "Other.__eq__" = true)
    (k_C11___eq__ : PySem.W.keepIn K (.ref g_C11___eq__) = true)
    (i_C11___eq__ : PySem.W.isFn K (.ref g_C11___eq__) = true)
    (mk_C11 : PySem.W.makesIn K C11 = true)
    (kc_C11 : PySem.W.keepIn K (.ref C11) = true)
    (a_C12 : PySem.W.nsIn K mainGlobals "Surely" = some (some (.ref C12)))
    (a_C12___init__ : PySem.W.findIn K (.ref C12) "__init__" = some (some (.ref g_C12___init__)))
    (l_C12___init__ : K.lookup g_C12___init__ = some ⟨oc_C12___init__, od_C12___init__, .func (PySem.W.fnOf "__init__" "Surely.__init__" (defArgs s_Surely___init__) (defBody s_Surely___init__) (defScope s_Surely___init__) .none kV_C12___init__ dc_C12___init__ pm_C12___init__ an_C12___init__ cd_C12___init__ ct_C12___init__), sl_C12___init__⟩)
    (c_C12___init__ : PySem.W.codeIn K cd_C12___init__ "Surely.__init__" = true)
    (k_C12___init__ : PySem.W.keepIn K (.ref g_C12___init__) = true)
    (i_C12___init__ : PySem.W.isFn K (.ref g_C12___init__) = true)
    (a_C12___eq__ : PySem.W.findIn K (.ref C12) "__eq__" = some (some (.ref g_C12___eq__)))
    (l_C12___eq__ : K.lookup g_C12___eq__ = some ⟨oc_C12___eq__, od_C12___eq__, .func (PySem.W.fnOf "__eq__" "Surely.__eq__" (defArgs s_Surely___eq__) (defBody s_Surely___eq__) (defScope s_Surely___eq__) .none kV_C12___eq__ dc_C12___eq__ pm_C12___eq__ an_C12___eq__ cd_C12___eq__ ct_C12___eq__), sl_C12___eq__⟩)
    (c_C12___eq__ : PySem.W.codeIn K cd_C12___eq__ "Surely.__eq__" = true)
    (k_C12___eq__ : PySem.W.keepIn K (.ref g_C12___eq__) = true)
    (i_C12___eq__ : PySem.W.isFn K (.ref g_C12___eq__) = true)
    (mk_C12 : PySem.W.makesIn K C12 = true)
    (kc_C12 : PySem.W.keepIn K (.ref C12) = true)
    (a_C13 : PySem.W.nsIn K mainGlobals "Counter" = some (some (.ref C13)))
    (a_C13___init__ : PySem.W.findIn K (.ref C13) "__init__" = some (some (.ref g_C13___init__)))
    (l_C13___init__ : K.lookup g_C13___init__ = some ⟨oc_C13___init__, od_C13___init__, .func (PySem.W.fnOf "__init__" "Counter.__init__" (defArgs s_Counter___init__) (defBody s_Counter___init__) (defScope s_Counter___init__) .none kV_C13___init__ dc_C13___init__ pm_C13___init__ an_C13___init__ cd_C13___init__ ct_C13___init__), sl_C13___init__⟩)
    (c_C13___init__ : PySem.W.codeIn K cd_C13___init__ "Counter.__init__" = true)
    (k_C13___init__ : PySem.W.keepIn K (.ref g_C13___init__) = true)
    (i_C13___init__ : PySem.W.isFn K (.ref g_C13___init__) = true)
    (a_C13___eq__ : PySem.W.findIn K (.ref C13) "__eq__" = some (some (.ref g_C13___eq__)))
    (l_C13___eq__ : K.lookup g_C13___eq__ = some ⟨oc_C13___eq__, od_C13___eq__, .func (PySem.W.fnOf "__eq__" "Counter.__eq__" (defArgs s_Counter___eq__) (defBody s_Counter___eq__) (defScope s_Counter___eq__) .none kV_C13___eq__ dc_C13___eq__ pm_C13___eq__ an_C13___eq__ cd_C13___eq__ ct_C13___eq__), sl_C13___eq__⟩)
    (c_C13___eq__ : PySem.W.codeIn K cd_C13___eq__ "Counter.__eq__" = true)
    (k_C13___eq__ : PySem.W.keepIn K (.ref g_C13___eq__) = true)
    (i_C13___eq__ : PySem.W.isFn K (.ref g_C13___eq__) = true)
    (mk_C13 : PySem.W.makesIn K C13 = true)
    (kc_C13 : PySem.W.keepIn K (.ref C13) = true)
    (a_C14 : PySem.W.nsIn K mainGlobals "Undecided" = some (some (.ref C14)))
    (a_C14___init__ : PySem.W.findIn K (.ref C14) "__init__" = some (some (.ref g_C14___init__)))
    (l_C14___init__ : K.lookup g_C14___init__ = some ⟨oc_C14___init__, od_C14___init__, .func (PySem.W.fnOf "__init__" "Undecided.__init__" (defArgs s_Undecided___init__) (defBody s_Undecided___init__) (defScope s_Undecided___init__) .none kV_C14___init__ dc_C14___init__ pm_C14___init__ an_C14___init__ cd_C14___init__ ct_C14___init__), sl_C14___init__⟩)
    (c_C14___init__ : PySem.W.codeIn K cd_C14___init__ "Undecided.__init__" = true)
    (k_C14___init__ : PySem.W.keepIn K (.ref g_C14___init__) = true)
    (i_C14___init__ : PySem.W.isFn K (.ref g_C14___init__) = true)
    (a_C14___eq__ : PySem.W.findIn K (.ref C14) "__eq__" = some (some (.ref g_C14___eq__)))
    (l_C14___eq__ : K.lookup g_C14___eq__ = some ⟨oc_C14___eq__, od_C14___eq__, .func (PySem.W.fnOf "__eq__" "Undecided.__eq__" (defArgs s_Undecided___eq__) (defBody s_Undecided___eq__) (defScope s_Undecided___eq__) .none kV_C14___eq__ dc_C14___eq__ pm_C14___eq__ an_C14___eq__ cd_C14___eq__ ct_C14___eq__), sl_C14___eq__⟩)
    (c_C14___eq__ : PySem.W.codeIn K cd_C14___eq__ "Undecided.__eq__" = true)
    (k_C14___eq__ : PySem.W.keepIn K (.ref g_C14___eq__) = true)
    (i_C14___eq__ : PySem.W.isFn K (.ref g_C14___eq__) = true)
    (mk_C14 : PySem.W.makesIn K C14 = true)
    (kc_C14 : PySem.W.keepIn K (.ref C14) = true)
    (a_C15 : PySem.W.nsIn K mainGlobals "Bound" = some (some (.ref C15)))
    (a_C15___init__ : PySem.W.findIn K (.ref C15) "__init__" = some (some (.ref g_C15___init__)))
    (l_C15___init__ : K.lookup g_C15___init__ = some ⟨oc_C15___init__, od_C15___init__, .func (PySem.W.fnOf "__init__" "Bound.__init__" (defArgs s_Bound___init__) (defBody s_Bound___init__) (defScope s_Bound___init__) .none kV_C15___init__ dc_C15___init__ pm_C15___init__ an_C15___init__ cd_C15___init__ ct_C15___init__), sl_C15___init__⟩)
    (c_C15___init__ : PySem.W.codeIn K cd_C15___init__ "Bound.__init__" = true)
    (k_C15___init__ : PySem.W.keepIn K (.ref g_C15___init__) = true)
    (i_C15___init__ : PySem.W.isFn K (.ref g_C15___init__) = true)
    (a_C15___eq__ : PySem.W.findIn K (.ref C15) "__eq__" = some (some (.ref g_C15___eq__)))
    (l_C15___eq__ : K.lookup g_C15___eq__ = some ⟨oc_C15___eq__, od_C15___eq__, .func (PySem.W.fnOf "__eq__" "Bound.__eq__" (defArgs s_Bound___eq__) (defBody s_Bound___eq__) (defScope s_Bound___eq__) .none kV_C15___eq__ dc_C15___eq__ pm_C15___eq__ an_C15___eq__ cd_C15___eq__ ct_C15___eq__), sl_C15___eq__⟩)
    (c_C15___eq__ : PySem.W.codeIn K cd_C15___eq__ "Bound.__eq__" = true)
    (k_C15___eq__ : PySem.W.keepIn K (.ref g_C15___eq__) = true)
    (i_C15___eq__ : PySem.W.isFn K (.ref g_C15___eq__) = true)
    (mk_C15 : PySem.W.makesIn K C15 = true)
    (kc_C15 : PySem.W.keepIn K (.ref C15) = true)
    (a_C16 : PySem.W.nsIn K mainGlobals "Endless" = some (some (.ref C16)))
    (a_C16___init__ : PySem.W.findIn K (.ref C16) "__init__" = some (some (.ref g_C16___init__)))
    (l_C16___init__ : K.lookup g_C16___init__ = some ⟨oc_C16___init__, od_C16___init__, .func (PySem.W.fnOf "__init__" "Endless.__init__" (defArgs s_Endless___init__) (defBody s_Endless___init__) (defScope s_Endless___init__) .none kV_C16___init__ dc_C16___init__ pm_C16___init__ an_C16___init__ cd_C16___init__ ct_C16___init__), sl_C16___init__⟩)
    (c_C16___init__ : PySem.W.codeIn K cd_C16___init__ "Endless.__init__" = true)
    (k_C16___init__ : PySem.W.keepIn K (.ref g_C16___init__) = true)
    (i_C16___init__ : PySem.W.isFn K (.ref g_C16___init__) = true)
    (a_C16___eq__ : PySem.W.findIn K (.ref C16) "__eq__" = some (some (.ref g_C16___eq__)))
    (l_C16___eq__ : K.lookup g_C16___eq__ = some ⟨oc_C16___eq__, od_C16___eq__, .func (PySem.W.fnOf "__eq__" "Endless.__eq__" (defArgs s_Endless___eq__) (defBody s_Endless___eq__) (defScope s_Endless___eq__) .none kV_C16___eq__ dc_C16___eq__ pm_C16___eq__ an_C16___eq__ cd_C16___eq__ ct_C16___eq__), sl_C16___eq__⟩)
    (c_C16___eq__ : PySem.W.codeIn K cd_C16___eq__ "Endless.__eq__" = true)
    (k_C16___eq__ : PySem.W.keepIn K (.ref g_C16___eq__) = true)
    (i_C16___eq__ : PySem.W.isFn K (.ref g_C16___eq__) = true)
    (mk_C16 : PySem.W.makesIn K C16 = true)
    (kc_C16 : PySem.W.keepIn K (.ref C16) = true)
    (a_C17 : PySem.W.nsIn K mainGlobals "Within" = some (some (.ref C17)))
    (a_C17___init__ : PySem.W.findIn K (.ref C17) "__init__" = some (some (.ref g_C17___init__)))
    (l_C17___init__ : K.lookup g_C17___init__ = some ⟨oc_C17___init__, od_C17___init__, .func (PySem.W.fnOf "__init__" "Within.__init__" (defArgs s_Within___init__) (defBody s_Within___init__) (defScope s_Within___init__) .none kV_C17___init__ dc_C17___init__ pm_C17___init__ an_C17___init__ cd_C17___init__ ct_C17___init__), sl_C17___init__⟩)
    (c_C17___init__ : PySem.W.codeIn K cd_C17___init__ "Within.__init__" = true)
    (k_C17___init__ : PySem.W.keepIn K (.ref g_C17___init__) = true)
    (i_C17___init__ : PySem.W.isFn K (.ref g_C17___init__) = true)
    (a_C17___eq__ : PySem.W.findIn K (.ref C17) "__eq__" = some (some (.ref g_C17___eq__)))
    (l_C17___eq__ : K.lookup g_C17___eq__ = some ⟨oc_C17___eq__, od_C17___eq__, .func (PySem.W.fnOf "__eq__" "Within.__eq__" (defArgs s_Within___eq__) (defBody s_Within___eq__) (defScope s_Within___eq__) .none kV_C17___eq__ dc_C17___eq__ pm_C17___eq__ an_C17___eq__ cd_C17___eq__ ct_C17___eq__), sl_C17___eq__⟩)
    (c_C17___eq__ : PySem.W.codeIn K cd_C17___eq__ "Within.__eq__" = true)
    (k_C17___eq__ : PySem.W.keepIn K (.ref g_C17___eq__) = true)
    (i_C17___eq__ : PySem.W.isFn K (.ref g_C17___eq__) = true)
    (mk_C17 : PySem.W.makesIn K C17 = true)
    (kc_C17 : PySem.W.keepIn K (.ref C17) = true)
    (a_C18 : PySem.W.nsIn K mainGlobals "Beyond" = some (some (.ref C18)))
    (a_C18___init__ : PySem.W.findIn K (.ref C18) "__init__" = some (some (.ref g_C18___init__)))
    (l_C18___init__ : K.lookup g_C18___init__ = some ⟨oc_C18___init__, od_C18___init__, .func (PySem.W.fnOf "__init__" "Beyond.__init__" (defArgs s_Beyond___init__) (defBody s_Beyond___init__) (defScope s_Beyond___init__) .none kV_C18___init__ dc_C18___init__ pm_C18___init__ an_C18___init__ cd_C18___init__ ct_C18___init__), sl_C18___init__⟩)
    (c_C18___init__ : PySem.W.codeIn K cd_C18___init__ "Beyond.__init__" = true)
    (k_C18___init__ : PySem.W.keepIn K (.ref g_C18___init__) = true)
    (i_C18___init__ : PySem.W.isFn K (.ref g_C18___init__) = true)
    (a_C18___eq__ : PySem.W.findIn K (.ref C18) "__eq__" = some (some (.ref g_C18___eq__)))
    (l_C18___eq__ : K.lookup g_C18___eq__ = some ⟨oc_C18___eq__, od_C18___eq__, .func (PySem.W.fnOf "__eq__" "Beyond.__eq__" (defArgs s_Beyond___eq__) (defBody s_Beyond___eq__) (defScope s_Beyond___eq__) .none kV_C18___eq__ dc_C18___eq__ pm_C18___eq__ an_C18___eq__ cd_C18___eq__ ct_C18___eq__), sl_C18___eq__⟩)
    (c_C18___eq__ : PySem.W.codeIn K cd_C18___eq__ "Beyond.__eq__" = true)
    (k_C18___eq__ : PySem.W.keepIn K (.ref g_C18___eq__) = true)
    (i_C18___eq__ : PySem.W.isFn K (.ref g_C18___eq__) = true)
    (mk_C18 : PySem.W.makesIn K C18 = true)
    (kc_C18 : PySem.W.keepIn K (.ref C18) = true)
    (a_C19 : PySem.W.nsIn K mainGlobals "Latest" = some (some (.ref C19)))
    (a_C19___init__ : PySem.W.findIn K (.ref C19) "__init__" = some (some (.ref g_C19___init__)))
    (l_C19___init__ : K.lookup g_C19___init__ = some ⟨oc_C19___init__, od_C19___init__, .func (PySem.W.fnOf "__init__" "Latest.__init__" (defArgs s_Latest___init__) (defBody s_Latest___init__) (defScope s_Latest___init__) .none kV_C19___init__ dc_C19___init__ pm_C19___init__ an_C19___init__ cd_C19___init__ ct_C19___init__), sl_C19___init__⟩)
    (c_C19___init__ : PySem.W.codeIn K cd_C19___init__ "Latest.__init__" = true)
    (k_C19___init__ : PySem.W.keepIn K (.ref g_C19___init__) = true)
    (i_C19___init__ : PySem.W.isFn K (.ref g_C19___init__) = true)
    (a_C19___eq__ : PySem.W.findIn K (.ref C19) "__eq__" = some (some (.ref g_C19___eq__)))
    (l_C19___eq__ : K.lookup g_C19___eq__ = some ⟨oc_C19___eq__, od_C19___eq__, .func (PySem.W.fnOf "__eq__" "Latest.__eq__" (defArgs s_Latest___eq__) (defBody s_Latest___eq__) (defScope s_Latest___eq__) .none kV_C19___eq__ dc_C19___eq__ pm_C19___eq__ an_C19___eq__ cd_C19___eq__ ct_C19___eq__), sl_C19___eq__⟩)
    (c_C19___eq__ : PySem.W.codeIn K cd_C19___eq__ "Latest.__eq__" = true)
    (k_C19___eq__ : PySem.W.keepIn K (.ref g_C19___eq__) = true)
    (i_C19___eq__ : PySem.W.isFn K (.ref g_C19___eq__) = true)
    (mk_C19 : PySem.W.makesIn K C19 = true)
    (kc_C19 : PySem.W.keepIn K (.ref C19) = true)
    (a_C20 : PySem.W.nsIn K mainGlobals "Taking" = some (some (.ref C20)))
    (a_C20___init__ : PySem.W.findIn K (.ref C20) "__init__" = some (some (.ref g_C20___init__)))
    (l_C20___init__ : K.lookup g_C20___init__ = some ⟨oc_C20___init__, od_C20___init__, .func (PySem.W.fnOf "__init__" "Taking.__init__" (defArgs s_Taking___init__) (defBody s_Taking___init__) (defScope s_Taking___init__) .none kV_C20___init__ dc_C20___init__ pm_C20___init__ an_C20___init__ cd_C20___init__ ct_C20___init__), sl_C20___init__⟩)
    (c_C20___init__ : PySem.W.codeIn K cd_C20___init__ "Taking.__init__" = true)
    (k_C20___init__ : PySem.W.keepIn K (.ref g_C20___init__) = true)
    (i_C20___init__ : PySem.W.isFn K (.ref g_C20___init__) = true)
    (a_C20___eq__ : PySem.W.findIn K (.ref C20) "__eq__" = some (some (.ref g_C20___eq__)))
    (l_C20___eq__ : K.lookup g_C20___eq__ = some ⟨oc_C20___eq__, od_C20___eq__, .func (PySem.W.fnOf "__eq__" "Taking.__eq__" (defArgs s_Taking___eq__) (defBody s_Taking___eq__) (defScope s_Taking___eq__) .none kV_C20___eq__ dc_C20___eq__ pm_C20___eq__ an_C20___eq__ cd_C20___eq__ ct_C20___eq__), sl_C20___eq__⟩)
    (c_C20___eq__ : PySem.W.codeIn K cd_C20___eq__ "Taking.__eq__" = true)
    (k_C20___eq__ : PySem.W.keepIn K (.ref g_C20___eq__) = true)
    (i_C20___eq__ : PySem.W.isFn K (.ref g_C20___eq__) = true)
    (mk_C20 : PySem.W.makesIn K C20 = true)
    (kc_C20 : PySem.W.keepIn K (.ref C20) = true)
    (a_C21 : PySem.W.nsIn K mainGlobals "Fits" = some (some (.ref C21)))
    (a_C21___init__ : PySem.W.findIn K (.ref C21) "__init__" = some (some (.ref g_C21___init__)))
    (l_C21___init__ : K.lookup g_C21___init__ = some ⟨oc_C21___init__, od_C21___init__, .func (PySem.W.fnOf "__init__" "Fits.__init__" (defArgs s_Fits___init__) (defBody s_Fits___init__) (defScope s_Fits___init__) .none kV_C21___init__ dc_C21___init__ pm_C21___init__ an_C21___init__ cd_C21___init__ ct_C21___init__), sl_C21___init__⟩)
    (c_C21___init__ : PySem.W.codeIn K cd_C21___init__ "Fits.__init__" = true)
    (k_C21___init__ : PySem.W.keepIn K (.ref g_C21___init__) = true)
    (i_C21___init__ : PySem.W.isFn K (.ref g_C21___init__) = true)
    (a_C21___eq__ : PySem.W.findIn K (.ref C21) "__eq__" = some (some (.ref g_C21___eq__)))
    (l_C21___eq__ : K.lookup g_C21___eq__ = some ⟨oc_C21___eq__, od_C21___eq__, .func (PySem.W.fnOf "__eq__" "Fits.__eq__" (defArgs s_Fits___eq__) (defBody s_Fits___eq__) (defScope s_Fits___eq__) .none kV_C21___eq__ dc_C21___eq__ pm_C21___eq__ an_C21___eq__ cd_C21___eq__ ct_C21___eq__), sl_C21___eq__⟩)
    (c_C21___eq__ : PySem.W.codeIn K cd_C21___eq__ "Fits.__eq__" = true)
    (k_C21___eq__ : PySem.W.keepIn K (.ref g_C21___eq__) = true)
    (i_C21___eq__ : PySem.W.isFn K (.ref g_C21___eq__) = true)
    (mk_C21 : PySem.W.makesIn K C21 = true)
    (kc_C21 : PySem.W.keepIn K (.ref C21) = true)
    (a_C22 : PySem.W.nsIn K mainGlobals "Misfit" = some (some (.ref C22)))
    (a_C22___init__ : PySem.W.findIn K (.ref C22) "__init__" = some (some (.ref g_C22___init__)))
    (l_C22___init__ : K.lookup g_C22___init__ = some ⟨oc_C22___init__, od_C22___init__, .func (PySem.W.fnOf "__init__" "Misfit.__init__" (defArgs s_Misfit___init__) (defBody s_Misfit___init__) (defScope s_Misfit___init__) .none kV_C22___init__ dc_C22___init__ pm_C22___init__ an_C22___init__ cd_C22___init__ ct_C22___init__), sl_C22___init__⟩)
    (c_C22___init__ : PySem.W.codeIn K cd_C22___init__ "Misfit.__init__" = true)
    (k_C22___init__ : PySem.W.keepIn K (.ref g_C22___init__) = true)
    (i_C22___init__ : PySem.W.isFn K (.ref g_C22___init__) = true)
    (a_C22___eq__ : PySem.W.findIn K (.ref C22) "__eq__" = some (some (.ref g_C22___eq__)))
    (l_C22___eq__ : K.lookup g_C22___eq__ = some ⟨oc_C22___eq__, od_C22___eq__, .func (PySem.W.fnOf "__eq__" "Misfit.__eq__" (defArgs s_Misfit___eq__) (defBody s_Misfit___eq__) (defScope s_Misfit___eq__) .none kV_C22___eq__ dc_C22___eq__ pm_C22___eq__ an_C22___eq__ cd_C22___eq__ ct_C22___eq__), sl_C22___eq__⟩)
    (c_C22___eq__ : PySem.W.codeIn K cd_C22___eq__ "Misfit.__eq__" = true)
    (k_C22___eq__ : PySem.W.keepIn K (.ref g_C22___eq__) = true)
    (i_C22___eq__ : PySem.W.isFn K (.ref g_C22___eq__) = true)
    (mk_C22 : PySem.W.makesIn K C22 = true)
    (kc_C22 : PySem.W.keepIn K (.ref C22) = true)
    (a_C23 : PySem.W.nsIn K mainGlobals "Ring" = some (some (.ref C23)))
    (a_C23___init__ : PySem.W.findIn K (.ref C23) "__init__" = some (some (.ref g_C23___init__)))
    (l_C23___init__ : K.lookup g_C23___init__ = some ⟨oc_C23___init__, od_C23___init__, .func (PySem.W.fnOf "__init__" "Ring.__init__" (defArgs s_Ring___init__) (defBody s_Ring___init__) (defScope s_Ring___init__) .none kV_C23___init__ dc_C23___init__ pm_C23___init__ an_C23___init__ cd_C23___init__ ct_C23___init__), sl_C23___init__⟩)
    (c_C23___init__ : PySem.W.codeIn K cd_C23___init__ "Ring.__init__" = true)
    (k_C23___init__ : PySem.W.keepIn K (.ref g_C23___init__) = true)
    (i_C23___init__ : PySem.W.isFn K (.ref g_C23___init__) = true)
    (a_C23___eq__ : PySem.W.findIn K (.ref C23) "__eq__" = some (some (.ref g_C23___eq__)))
    (l_C23___eq__ : K.lookup g_C23___eq__ = some ⟨oc_C23___eq__, od_C23___eq__, .func (PySem.W.fnOf "__eq__" "Ring.__eq__" (defArgs s_Ring___eq__) (defBody s_Ring___eq__) (defScope s_Ring___eq__) .none kV_C23___eq__ dc_C23___eq__ pm_C23___eq__ an_C23___eq__ cd_C23___eq__ ct_C23___eq__), sl_C23___eq__⟩)
    (c_C23___eq__ : PySem.W.codeIn K cd_C23___eq__ "Ring.__eq__" = true)
    (k_C23___eq__ : PySem.W.keepIn K (.ref g_C23___eq__) = true)
    (i_C23___eq__ : PySem.W.isFn K (.ref g_C23___eq__) = true)
    (mk_C23 : PySem.W.makesIn K C23 = true)
    (kc_C23 : PySem.W.keepIn K (.ref C23) = true)
    (a_C24 : PySem.W.nsIn K mainGlobals "Came" = some (some (.ref C24)))
    (a_C24___init__ : PySem.W.findIn K (.ref C24) "__init__" = some (some (.ref g_C24___init__)))
    (l_C24___init__ : K.lookup g_C24___init__ = some ⟨oc_C24___init__, od_C24___init__, .func (PySem.W.fnOf "__init__" "Came.__init__" (defArgs s_Came___init__) (defBody s_Came___init__) (defScope s_Came___init__) .none kV_C24___init__ dc_C24___init__ pm_C24___init__ an_C24___init__ cd_C24___init__ ct_C24___init__), sl_C24___init__⟩)
    (c_C24___init__ : PySem.W.codeIn K cd_C24___init__ "Came.__init__" = true)
    (k_C24___init__ : PySem.W.keepIn K (.ref g_C24___init__) = true)
    (i_C24___init__ : PySem.W.isFn K (.ref g_C24___init__) = true)
    (a_C24___eq__ : PySem.W.findIn K (.ref C24) "__eq__" = some (some (.ref g_C24___eq__)))
    (l_C24___eq__ : K.lookup g_C24___eq__ = some ⟨oc_C24___eq__, od_C24___eq__, .func (PySem.W.fnOf "__eq__" "Came.__eq__" (defArgs s_Came___eq__) (defBody s_Came___eq__) (defScope s_Came___eq__) .none kV_C24___eq__ dc_C24___eq__ pm_C24___eq__ an_C24___eq__ cd_C24___eq__ ct_C24___eq__), sl_C24___eq__⟩)
    (c_C24___eq__ : PySem.W.codeIn K cd_C24___eq__ "Came.__eq__" = true)
    (k_C24___eq__ : PySem.W.keepIn K (.ref g_C24___eq__) = true)
    (i_C24___eq__ : PySem.W.isFn K (.ref g_C24___eq__) = true)
    (mk_C24 : PySem.W.makesIn K C24 = true)
    (kc_C24 : PySem.W.keepIn K (.ref C24) = true)
    (a_C25 : PySem.W.nsIn K mainGlobals "BestOrder" = some (some (.ref C25)))
    (a_C25___init__ : PySem.W.findIn K (.ref C25) "__init__" = some (some (.ref g_C25___init__)))
    (l_C25___init__ : K.lookup g_C25___init__ = some ⟨oc_C25___init__, od_C25___init__, .func (PySem.W.fnOf "__init__" "BestOrder.__init__" (defArgs s_BestOrder___init__) (defBody s_BestOrder___init__) (defScope s_BestOrder___init__) .none kV_C25___init__ dc_C25___init__ pm_C25___init__ an_C25___init__ cd_C25___init__ ct_C25___init__), sl_C25___init__⟩)
    (c_C25___init__ : PySem.W.codeIn K cd_C25___init__ "BestOrder.__init__" = true)
    (k_C25___init__ : PySem.W.keepIn K (.ref g_C25___init__) = true)
    (i_C25___init__ : PySem.W.isFn K (.ref g_C25___init__) = true)
    (a_C25___eq__ : PySem.W.findIn K (.ref C25) "__eq__" = some (some (.ref g_C25___eq__)))
    (l_C25___eq__ : K.lookup g_C25___eq__ = some ⟨oc_C25___eq__, od_C25___eq__, .func (PySem.W.fnOf "__eq__" "BestOrder.__eq__" (defArgs s_BestOrder___eq__) (defBody s_BestOrder___eq__) (defScope s_BestOrder___eq__) .none kV_C25___eq__ dc_C25___eq__ pm_C25___eq__ an_C25___eq__ cd_C25___eq__ ct_C25___eq__), sl_C25___eq__⟩)
    (c_C25___eq__ : PySem.W.codeIn K cd_C25___eq__ "BestOrder.__eq__" = true)
    (k_C25___eq__ : PySem.W.keepIn K (.ref g_C25___eq__) = true)
    (i_C25___eq__ : PySem.W.isFn K (.ref g_C25___eq__) = true)
    (mk_C25 : PySem.W.makesIn K C25 = true)
    (kc_C25 : PySem.W.keepIn K (.ref C25) = true)
    (a_C26 : PySem.W.nsIn K mainGlobals "PoolTaking" = some (some (.ref C26)))
    (a_C26___init__ : PySem.W.findIn K (.ref C26) "__init__" = some (some (.ref g_C26___init__)))
    (l_C26___init__ : K.lookup g_C26___init__ = some ⟨oc_C26___init__, od_C26___init__, .func (PySem.W.fnOf "__init__" "PoolTaking.__init__" (defArgs s_PoolTaking___init__) (defBody s_PoolTaking___init__) (defScope s_PoolTaking___init__) .none kV_C26___init__ dc_C26___init__ pm_C26___init__ an_C26___init__ cd_C26___init__ ct_C26___init__), sl_C26___init__⟩)
    (c_C26___init__ : PySem.W.codeIn K cd_C26___init__ "PoolTaking.__init__" = true)
    (k_C26___init__ : PySem.W.keepIn K (.ref g_C26___init__) = true)
    (i_C26___init__ : PySem.W.isFn K (.ref g_C26___init__) = true)
    (a_C26___eq__ : PySem.W.findIn K (.ref C26) "__eq__" = some (some (.ref g_C26___eq__)))
    (l_C26___eq__ : K.lookup g_C26___eq__ = some ⟨oc_C26___eq__, od_C26___eq__, .func (PySem.W.fnOf "__eq__" "PoolTaking.__eq__" (defArgs s_PoolTaking___eq__) (defBody s_PoolTaking___eq__) (defScope s_PoolTaking___eq__) .none kV_C26___eq__ dc_C26___eq__ pm_C26___eq__ an_C26___eq__ cd_C26___eq__ ct_C26___eq__), sl_C26___eq__⟩)
    (c_C26___eq__ : PySem.W.codeIn K cd_C26___eq__ "PoolTaking.__eq__" = true)
    (k_C26___eq__ : PySem.W.keepIn K (.ref g_C26___eq__) = true)
    (i_C26___eq__ : PySem.W.isFn K (.ref g_C26___eq__) = true)
    (a_C26_own_row : PySem.W.findIn K (.ref C26) "own_row" = some (some (.ref g_C26_own_row)))
    (l_C26_own_row : K.lookup g_C26_own_row = some ⟨oc_C26_own_row, od_C26_own_row, .func (PySem.W.fnOf "own_row" "PoolTaking.own_row" (defArgs s_PoolTaking_own_row) (defBody s_PoolTaking_own_row) (defScope s_PoolTaking_own_row) .none kV_C26_own_row dc_C26_own_row pm_C26_own_row an_C26_own_row cd_C26_own_row ct_C26_own_row), sl_C26_own_row⟩)
    (c_C26_own_row : PySem.W.codeIn K cd_C26_own_row "PoolTaking.own_row" = true)
    (k_C26_own_row : PySem.W.keepIn K (.ref g_C26_own_row) = true)
    (i_C26_own_row : PySem.W.isFn K (.ref g_C26_own_row) = true)
    (mk_C26 : PySem.W.makesIn K C26 = true)
    (kc_C26 : PySem.W.keepIn K (.ref C26) = true)
    (yb : PySem.W.specialIn K (.builtin "object.__class__") "__get__" = some (some (.builtin "getset_descriptor.__get__")))
    (yc : PySem.W.takesIn K (.builtin "object.__class__") = some true)
    (clA : [C0, C1, C2, C3, C4, C5, C6, C7, C8, C9, C10, C11, C12, C13, C14, C15, C16, C17, C18, C19, C20, C21, C22, C23, C24, C25, C26].all (clB K) = true)
    (tyA : [C0, C1, C2, C3, C4, C5, C6, C7, C8, C9, C10, C11, C12, C13, C14, C15, C16, C17, C18, C19, C20, C21, C22, C23, C24, C25, C26].all (tyB K) = true)
    (cmA : [C0, C1, C2, C3, C4, C5, C6, C7, C8, C9, C10, C11, C12, C13, C14, C15, C16, C17, C18, C19, C20, C21, C22, C23, C24, C25, C26].all (cmB K) = true)
    (boA : ((List.range 27).all fun j => boB K g_CD___bool__ ([C0, C1, C2, C3, C4, C5, C6, C7, C8, C9, C10, C11, C12, C13, C14, C15, C16, C17, C18, C19, C20, C21, C22, C23, C24, C25, C26].getD j 0) (den j)) = true)
    (kitA : ((List.range 27).all fun i => (List.range 27).all fun j => decide (PySem.W.kitOne K (.ref ([C0, C1, C2, C3, C4, C5, C6, C7, C8, C9, C10, C11, C12, C13, C14, C15, C16, C17, C18, C19, C20, C21, C22, C23, C24, C25, C26].getD i 0)) (.ref ([C0, C1, C2, C3, C4, C5, C6, C7, C8, C9, C10, C11, C12, C13, C14, C15, C16, C17, C18, C19, C20, C21, C22, C23, C24, C25, C26].getD j 0)) = some (decide (i = j)))) = true)
    (kitPA : ((List.range 27).all fun i => decide (PySem.W.kitOne K (.ref ([C0, C1, C2, C3, C4, C5, C6, C7, C8, C9, C10, C11, C12, C13, C14, C15, C16, C17, C18, C19, C20, C21, C22, C23, C24, C25, C26].getD i 0)) (.ref CP) = some true)) = true)
    (kitDA : ((List.range 27).all fun i => decide (PySem.W.kitOne K (.ref ([C0, C1, C2, C3, C4, C5, C6, C7, C8, C9, C10, C11, C12, C13, C14, C15, C16, C17, C18, C19, C20, C21, C22, C23, C24, C25, C26].getD i 0)) (.ref CD) = some (den i))) = true)
    (kitLA : ((List.range 27).all fun i => decide (PySem.W.kitOne K (.type "list") (.ref ([C0, C1, C2, C3, C4, C5, C6, C7, C8, C9, C10, C11, C12, C13, C14, C15, C16, C17, C18, C19, C20, C21, C22, C23, C24, C25, C26].getD i 0)) = some false)) = true)
    (fldA : ((List.range 27).all fun j => (flds j).all fun g => decide (PySem.W.findIn K (.ref ([C0, C1, C2, C3, C4, C5, C6, C7, C8, C9, C10, C11, C12, C13, C14, C15, C16, C17, C18, C19, C20, C21, C22, C23, C24, C25, C26].getD j 0)) g = some none)) = true)
    (nfA : ((List.range 27).all fun i => (List.range 27).all fun j => PySem.W.notFirst K ([C0, C1, C2, C3, C4, C5, C6, C7, C8, C9, C10, C11, C12, C13, C14, C15, C16, C17, C18, C19, C20, C21, C22, C23, C24, C25, C26].getD i 0) (.ref ([C0, C1, C2, C3, C4, C5, C6, C7, C8, C9, C10, C11, C12, C13, C14, C15, C16, C17, C18, C19, C20, C21, C22, C23, C24, C25, C26].getD j 0))) = true)
    (z_isinstance : PySem.W.nsIn K mainGlobals "isinstance" = some none)
    (z_int : PySem.W.nsIn K mainGlobals "int" = some none)
    (z_len : PySem.W.nsIn K mainGlobals "len" = some none)
    (z_abs : PySem.W.nsIn K mainGlobals "abs" = some none)
    (z_list : PySem.W.nsIn K mainGlobals "list" = some none)
    (z_range : PySem.W.nsIn K mainGlobals "range" = some none)
    (z_repr : PySem.W.nsIn K mainGlobals "repr" = some none)
    (z_bool : PySem.W.nsIn K mainGlobals "bool" = some none)
    (hCPt : PySem.W.codeHdIn K ct0 Pt = true)
    (nPPt : K.lookup Pt = none)
    (tPPt : h.get? Pt = some { cls := .none, data := .fields #[] })
    (hPd0 : [Pt].Nodup)
    : LawG l w K CX0 6 63 "_law_script" mg fa h := by
  have e := hfa.symm.trans (PySem.W.mg_of X G a6)
  cases e
  have hPd : (([(Pt, lamQ1)] : List (Addr × Str)).map (·.1)).Nodup := hPd0
  have T : Txt K mg [C0, C1, C2, C3, C4, C5, C6, C7, C8, C9, C10, C11, C12, C13, C14, C15, C16, C17, C18, C19, C20, C21, C22, C23, C24, C25, C26] CP CD g_CD___bool__ := ⟨PySem.W.mg_none_of X G z_isinstance, PySem.W.mg_none_of X G z_int, PySem.W.mg_none_of X G z_len, PySem.W.mg_none_of X G z_abs, PySem.W.mg_none_of X G z_list, PySem.W.mg_none_of X G z_range, PySem.W.mg_none_of X G z_repr, PySem.W.mg_none_of X G z_bool, ⟨_, PySem.W.mg_of X G a_CP, rfl⟩, ⟨_, PySem.W.mg_of X G a_CD, rfl⟩, ⟨_, PySem.W.mg_of X G a_C0, rfl⟩, ⟨_, PySem.W.mg_of X G a_C1, rfl⟩, ⟨_, PySem.W.mg_of X G a_C2, rfl⟩, ⟨_, PySem.W.mg_of X G a_C3, rfl⟩, ⟨_, PySem.W.mg_of X G a_C4, rfl⟩, ⟨_, PySem.W.mg_of X G a_C5, rfl⟩, ⟨_, PySem.W.mg_of X G a_C6, rfl⟩, ⟨_, PySem.W.mg_of X G a_C7, rfl⟩, ⟨_, PySem.W.mg_of X G a_C8, rfl⟩, ⟨_, PySem.W.mg_of X G a_C9, rfl⟩, ⟨_, PySem.W.mg_of X G a_C10, rfl⟩, ⟨_, PySem.W.mg_of X G a_C11, rfl⟩, ⟨_, PySem.W.mg_of X G a_C12, rfl⟩, ⟨_, PySem.W.mg_of X G a_C13, rfl⟩, ⟨_, PySem.W.mg_of X G a_C14, rfl⟩, ⟨_, PySem.W.mg_of X G a_C15, rfl⟩, ⟨_, PySem.W.mg_of X G a_C16, rfl⟩, ⟨_, PySem.W.mg_of X G a_C17, rfl⟩, ⟨_, PySem.W.mg_of X G a_C18, rfl⟩, ⟨_, PySem.W.mg_of X G a_C19, rfl⟩, ⟨_, PySem.W.mg_of X G a_C20, rfl⟩, ⟨_, PySem.W.mg_of X G a_C21, rfl⟩, ⟨_, PySem.W.mg_of X G a_C22, rfl⟩, ⟨_, PySem.W.mg_of X G a_C23, rfl⟩, ⟨_, PySem.W.mg_of X G a_C24, rfl⟩, ⟨_, PySem.W.mg_of X G a_C25, rfl⟩, ⟨_, PySem.W.mg_of X G a_C26, rfl⟩, rfl,
    (fun j hj => clB_ok (List.all_eq_true.mp clA _ (getD_mem' (l := [C0, C1, C2, C3, C4, C5, C6, C7, C8, C9, C10, C11, C12, C13, C14, C15, C16, C17, C18, C19, C20, C21, C22, C23, C24, C25, C26]) hj))), (fun j hj => tyB_ok (List.all_eq_true.mp tyA _ (getD_mem' (l := [C0, C1, C2, C3, C4, C5, C6, C7, C8, C9, C10, C11, C12, C13, C14, C15, C16, C17, C18, C19, C20, C21, C22, C23, C24, C25, C26]) hj))), yb, yc, (fun i j hi hj => of_decide_eq_true (allR (allR kitA i hi) j hj)), (fun i hi => of_decide_eq_true (allR kitPA i hi)), (fun i hi => of_decide_eq_true (allR kitDA i hi)), (fun i hi => of_decide_eq_true (allR kitLA i hi)),
    (fun j hj g hg => (show PySem.W.findIn K _ g = some none from of_decide_eq_true (List.all_eq_true.mp (allR fldA j hj) g hg))), (fun j hj => cmB_ok (List.all_eq_true.mp cmA _ (getD_mem' (l := [C0, C1, C2, C3, C4, C5, C6, C7, C8, C9, C10, C11, C12, C13, C14, C15, C16, C17, C18, C19, C20, C21, C22, C23, C24, C25, C26]) hj))), (fun i j hi hj => allR (allR nfA i hi) j hj), (fun j hj => boB_ok (allR boA j hj))⟩
  have F1 := fun_mk (st := s__law_pen) l1 c1 k1
  have F2 := fun_mk (st := s__law_draw) l2 c2 k2
  have F3 := fun_mk (st := s__law_pick) l3 c3 k3
  have F4 := fun_mk (st := s__law_value) l4 c4 k4
  have F5 : FunC K "_law_made" "_law_made" s__law_made ct0 f5 _ := ⟨⟨_, _, _, _, _, _, _, _, rfl, l5, c5⟩⟩
  have F6 := fun_mk (st := s_law) l6 c6 k6
  have F_CD___bool__ := fun_mk l_CD___bool__ c_CD___bool__ k_CD___bool__
  have F_C0___init__ := fun_mk l_C0___init__ c_C0___init__ k_C0___init__
  have F_C0___eq__ := fun_mk l_C0___eq__ c_C0___eq__ k_C0___eq__
  have F_C1___init__ := fun_mk l_C1___init__ c_C1___init__ k_C1___init__
  have F_C1___eq__ := fun_mk l_C1___eq__ c_C1___eq__ k_C1___eq__
  have F_C2___init__ := fun_mk l_C2___init__ c_C2___init__ k_C2___init__
  have F_C2___eq__ := fun_mk l_C2___eq__ c_C2___eq__ k_C2___eq__
  have F_C3___init__ := fun_mk l_C3___init__ c_C3___init__ k_C3___init__
  have F_C3___eq__ := fun_mk l_C3___eq__ c_C3___eq__ k_C3___eq__
  have F_C4___init__ := fun_mk l_C4___init__ c_C4___init__ k_C4___init__
  have F_C4___eq__ := fun_mk l_C4___eq__ c_C4___eq__ k_C4___eq__
  have F_C5___init__ := fun_mk l_C5___init__ c_C5___init__ k_C5___init__
  have F_C5___eq__ := fun_mk l_C5___eq__ c_C5___eq__ k_C5___eq__
  have F_C6___init__ := fun_mk l_C6___init__ c_C6___init__ k_C6___init__
  have F_C6___eq__ := fun_mk l_C6___eq__ c_C6___eq__ k_C6___eq__
  have F_C7___init__ := fun_mk l_C7___init__ c_C7___init__ k_C7___init__
  have F_C7___eq__ := fun_mk l_C7___eq__ c_C7___eq__ k_C7___eq__
  have F_C8___init__ := fun_mk l_C8___init__ c_C8___init__ k_C8___init__
  have F_C8___eq__ := fun_mk l_C8___eq__ c_C8___eq__ k_C8___eq__
  have F_C9___init__ := fun_mk l_C9___init__ c_C9___init__ k_C9___init__
  have F_C9___eq__ := fun_mk l_C9___eq__ c_C9___eq__ k_C9___eq__
  have F_C10___init__ := fun_mk l_C10___init__ c_C10___init__ k_C10___init__
  have F_C10___eq__ := fun_mk l_C10___eq__ c_C10___eq__ k_C10___eq__
  have F_C11___init__ := fun_mk l_C11___init__ c_C11___init__ k_C11___init__
  have F_C11___eq__ := fun_mk l_C11___eq__ c_C11___eq__ k_C11___eq__
  have F_C12___init__ := fun_mk l_C12___init__ c_C12___init__ k_C12___init__
  have F_C12___eq__ := fun_mk l_C12___eq__ c_C12___eq__ k_C12___eq__
  have F_C13___init__ := fun_mk l_C13___init__ c_C13___init__ k_C13___init__
  have F_C13___eq__ := fun_mk l_C13___eq__ c_C13___eq__ k_C13___eq__
  have F_C14___init__ := fun_mk l_C14___init__ c_C14___init__ k_C14___init__
  have F_C14___eq__ := fun_mk l_C14___eq__ c_C14___eq__ k_C14___eq__
  have F_C15___init__ := fun_mk l_C15___init__ c_C15___init__ k_C15___init__
  have F_C15___eq__ := fun_mk l_C15___eq__ c_C15___eq__ k_C15___eq__
  have F_C16___init__ := fun_mk l_C16___init__ c_C16___init__ k_C16___init__
  have F_C16___eq__ := fun_mk l_C16___eq__ c_C16___eq__ k_C16___eq__
  have F_C17___init__ := fun_mk l_C17___init__ c_C17___init__ k_C17___init__
  have F_C17___eq__ := fun_mk l_C17___eq__ c_C17___eq__ k_C17___eq__
  have F_C18___init__ := fun_mk l_C18___init__ c_C18___init__ k_C18___init__
  have F_C18___eq__ := fun_mk l_C18___eq__ c_C18___eq__ k_C18___eq__
  have F_C19___init__ := fun_mk l_C19___init__ c_C19___init__ k_C19___init__
  have F_C19___eq__ := fun_mk l_C19___eq__ c_C19___eq__ k_C19___eq__
  have F_C20___init__ := fun_mk l_C20___init__ c_C20___init__ k_C20___init__
  have F_C20___eq__ := fun_mk l_C20___eq__ c_C20___eq__ k_C20___eq__
  have F_C21___init__ := fun_mk l_C21___init__ c_C21___init__ k_C21___init__
  have F_C21___eq__ := fun_mk l_C21___eq__ c_C21___eq__ k_C21___eq__
  have F_C22___init__ := fun_mk l_C22___init__ c_C22___init__ k_C22___init__
  have F_C22___eq__ := fun_mk l_C22___eq__ c_C22___eq__ k_C22___eq__
  have F_C23___init__ := fun_mk l_C23___init__ c_C23___init__ k_C23___init__
  have F_C23___eq__ := fun_mk l_C23___eq__ c_C23___eq__ k_C23___eq__
  have F_C24___init__ := fun_mk l_C24___init__ c_C24___init__ k_C24___init__
  have F_C24___eq__ := fun_mk l_C24___eq__ c_C24___eq__ k_C24___eq__
  have F_C25___init__ := fun_mk l_C25___init__ c_C25___init__ k_C25___init__
  have F_C25___eq__ := fun_mk l_C25___eq__ c_C25___eq__ k_C25___eq__
  have F_C26___init__ := fun_mk l_C26___init__ c_C26___init__ k_C26___init__
  have F_C26___eq__ := fun_mk l_C26___eq__ c_C26___eq__ k_C26___eq__
  have F_C26_own_row := fun_mk l_C26_own_row c_C26_own_row k_C26_own_row
  refine ⟨PySem.W.fnOf "law" "law" (defArgs s_law) (defBody s_law) (defScope s_law) .none kV6 dc6 pm6 an6 cd6 ct6, [(ct0, Pt)], spLaw K [(Pt, lamQ1)], ?_, ?_, ?_, (fun s u => BindsTo.of_eq rfl), ?_, fun base kb nb tb => ?_⟩
  · intro p hp
    simp only [List.mem_cons, List.not_mem_nil, or_false] at hp
    rcases hp with rfl
    · exact tPPt
  · intro p hp
    simp only [List.mem_cons, List.not_mem_nil, or_false] at hp
    rcases hp with rfl
    · exact nPPt
  · intro p hp
    simp only [List.mem_cons, List.not_mem_nil, or_false] at hp
    rcases hp with rfl
    · exact PySem.W.codeHd_of_K X hCPt
  · intro H a ns hl hH hS
    refine ⟨a, ns, rfl, hS, hl, (fun p hp => ?_), fun _ => rfl⟩
    simp only [List.mem_cons, List.not_mem_nil, or_false] at hp
    rcases hp with rfl
    · exact tab0 (hH _ List.mem_cons_self)
  have o_C0 := ok_init_Fewest (P := l.prog) (w := w) (base := base) F_C0___init__ T
  have m_Fewest_1 : McO l.prog w K mg base (L2.CX l.prog w) 1 "Fewest" ([C0, C1, C2, C3, C4, C5, C6, C7, C8, C9, C10, C11, C12, C13, C14, C15, C16, C17, C18, C19, C20, C21, C22, C23, C24, C25, C26].getD 0 0) ["self", "chunks"] (spInit ([C0, C1, C2, C3, C4, C5, C6, C7, C8, C9, C10, C11, C12, C13, C14, C15, C16, C17, C18, C19, C20, C21, C22, C23, C24, C25, C26].getD 0 0) ["chunks"]) [] := ⟨⟨g_C0___init__, _, _, o_C0, PySem.W.mg_of X G a_C0, ⟨mk_C0, a_C0___init__, i_C0___init__, kc_C0⟩, bMk F_C0___init__ (fun _ _ _ _ _ _ us hl => match us, hl with | [_, _], _ => rfl), .nil⟩⟩
  have o_C1 := ok_init_NoList (P := l.prog) (w := w) (base := base) F_C1___init__ T
  have m_NoList_1 : McO l.prog w K mg base (L2.CX l.prog w) 1 "NoList" ([C0, C1, C2, C3, C4, C5, C6, C7, C8, C9, C10, C11, C12, C13, C14, C15, C16, C17, C18, C19, C20, C21, C22, C23, C24, C25, C26].getD 1 0) ["self", "rests"] (spInit ([C0, C1, C2, C3, C4, C5, C6, C7, C8, C9, C10, C11, C12, C13, C14, C15, C16, C17, C18, C19, C20, C21, C22, C23, C24, C25, C26].getD 1 0) ["rests"]) [] := ⟨⟨g_C1___init__, _, _, o_C1, PySem.W.mg_of X G a_C1, ⟨mk_C1, a_C1___init__, i_C1___init__, kc_C1⟩, bMk F_C1___init__ (fun _ _ _ _ _ _ us hl => match us, hl with | [_, _], _ => rfl), .nil⟩⟩
  have o_C2 := ok_init_Greatest (P := l.prog) (w := w) (base := base) F_C2___init__ T
  have m_Greatest_2 : McO l.prog w K mg base (L2.CX l.prog w) 1 "Greatest" ([C0, C1, C2, C3, C4, C5, C6, C7, C8, C9, C10, C11, C12, C13, C14, C15, C16, C17, C18, C19, C20, C21, C22, C23, C24, C25, C26].getD 2 0) ["self", "total", "chunks"] (spInit ([C0, C1, C2, C3, C4, C5, C6, C7, C8, C9, C10, C11, C12, C13, C14, C15, C16, C17, C18, C19, C20, C21, C22, C23, C24, C25, C26].getD 2 0) ["total", "chunks"]) [] := ⟨⟨g_C2___init__, _, _, o_C2, PySem.W.mg_of X G a_C2, ⟨mk_C2, a_C2___init__, i_C2___init__, kc_C2⟩, bMk F_C2___init__ (fun _ _ _ _ _ _ us hl => match us, hl with | [_, _, _], _ => rfl), .nil⟩⟩
  have o_C3 := ok_init_Least (P := l.prog) (w := w) (base := base) F_C3___init__ T
  have m_Least_3 : McO l.prog w K mg base (L2.CX l.prog w) 1 "Least" ([C0, C1, C2, C3, C4, C5, C6, C7, C8, C9, C10, C11, C12, C13, C14, C15, C16, C17, C18, C19, C20, C21, C22, C23, C24, C25, C26].getD 3 0) ["self", "limit", "chunks", "below"] (spInit ([C0, C1, C2, C3, C4, C5, C6, C7, C8, C9, C10, C11, C12, C13, C14, C15, C16, C17, C18, C19, C20, C21, C22, C23, C24, C25, C26].getD 3 0) ["limit", "chunks", "below"]) [] := ⟨⟨g_C3___init__, _, _, o_C3, PySem.W.mg_of X G a_C3, ⟨mk_C3, a_C3___init__, i_C3___init__, kc_C3⟩, bMk F_C3___init__ (fun _ _ _ _ _ _ us hl => match us, hl with | [_, _, _, _], _ => rfl), .nil⟩⟩
  have o_C4 := ok_init_BatchBound (P := l.prog) (w := w) (base := base) F_C4___init__ T
  have m_BatchBound_3 : McO l.prog w K mg base (L2.CX l.prog w) 1 "BatchBound" ([C0, C1, C2, C3, C4, C5, C6, C7, C8, C9, C10, C11, C12, C13, C14, C15, C16, C17, C18, C19, C20, C21, C22, C23, C24, C25, C26].getD 4 0) ["self", "late", "rest", "spot"] (spInit ([C0, C1, C2, C3, C4, C5, C6, C7, C8, C9, C10, C11, C12, C13, C14, C15, C16, C17, C18, C19, C20, C21, C22, C23, C24, C25, C26].getD 4 0) ["late", "rest", "spot"]) [] := ⟨⟨g_C4___init__, _, _, o_C4, PySem.W.mg_of X G a_C4, ⟨mk_C4, a_C4___init__, i_C4___init__, kc_C4⟩, bMk F_C4___init__ (fun _ _ _ _ _ _ us hl => match us, hl with | [_, _, _, _], _ => rfl), .nil⟩⟩
  have o_C5 := ok_init_BatchEndless (P := l.prog) (w := w) (base := base) F_C5___init__ T
  have m_BatchEndless_2 : McO l.prog w K mg base (L2.CX l.prog w) 1 "BatchEndless" ([C0, C1, C2, C3, C4, C5, C6, C7, C8, C9, C10, C11, C12, C13, C14, C15, C16, C17, C18, C19, C20, C21, C22, C23, C24, C25, C26].getD 5 0) ["self", "spot", "rise"] (spInit ([C0, C1, C2, C3, C4, C5, C6, C7, C8, C9, C10, C11, C12, C13, C14, C15, C16, C17, C18, C19, C20, C21, C22, C23, C24, C25, C26].getD 5 0) ["spot", "rise"]) [] := ⟨⟨g_C5___init__, _, _, o_C5, PySem.W.mg_of X G a_C5, ⟨mk_C5, a_C5___init__, i_C5___init__, kc_C5⟩, bMk F_C5___init__ (fun _ _ _ _ _ _ us hl => match us, hl with | [_, _, _], _ => rfl), .nil⟩⟩
  have o_C6 := ok_init_NeverLess (P := l.prog) (w := w) (base := base) F_C6___init__ T
  have m_NeverLess_1 : McO l.prog w K mg base (L2.CX l.prog w) 1 "NeverLess" ([C0, C1, C2, C3, C4, C5, C6, C7, C8, C9, C10, C11, C12, C13, C14, C15, C16, C17, C18, C19, C20, C21, C22, C23, C24, C25, C26].getD 6 0) ["self", "begins"] (spInit ([C0, C1, C2, C3, C4, C5, C6, C7, C8, C9, C10, C11, C12, C13, C14, C15, C16, C17, C18, C19, C20, C21, C22, C23, C24, C25, C26].getD 6 0) ["begins"]) [] := ⟨⟨g_C6___init__, _, _, o_C6, PySem.W.mg_of X G a_C6, ⟨mk_C6, a_C6___init__, i_C6___init__, kc_C6⟩, bMk F_C6___init__ (fun _ _ _ _ _ _ us hl => match us, hl with | [_, _], _ => rfl), .nil⟩⟩
  have o_C7 := ok_init_Less (P := l.prog) (w := w) (base := base) F_C7___init__ T
  have m_Less_1 : McO l.prog w K mg base (L2.CX l.prog w) 1 "Less" ([C0, C1, C2, C3, C4, C5, C6, C7, C8, C9, C10, C11, C12, C13, C14, C15, C16, C17, C18, C19, C20, C21, C22, C23, C24, C25, C26].getD 7 0) ["self", "rest"] (spInit ([C0, C1, C2, C3, C4, C5, C6, C7, C8, C9, C10, C11, C12, C13, C14, C15, C16, C17, C18, C19, C20, C21, C22, C23, C24, C25, C26].getD 7 0) ["rest"]) [] := ⟨⟨g_C7___init__, _, _, o_C7, PySem.W.mg_of X G a_C7, ⟨mk_C7, a_C7___init__, i_C7___init__, kc_C7⟩, bMk F_C7___init__ (fun _ _ _ _ _ _ us hl => match us, hl with | [_, _], _ => rfl), .nil⟩⟩
  have o_C8 := ok_init_Steady (P := l.prog) (w := w) (base := base) F_C8___init__ T
  have m_Steady_1 : McO l.prog w K mg base (L2.CX l.prog w) 1 "Steady" ([C0, C1, C2, C3, C4, C5, C6, C7, C8, C9, C10, C11, C12, C13, C14, C15, C16, C17, C18, C19, C20, C21, C22, C23, C24, C25, C26].getD 8 0) ["self", "begins"] (spInit ([C0, C1, C2, C3, C4, C5, C6, C7, C8, C9, C10, C11, C12, C13, C14, C15, C16, C17, C18, C19, C20, C21, C22, C23, C24, C25, C26].getD 8 0) ["begins"]) [] := ⟨⟨g_C8___init__, _, _, o_C8, PySem.W.mg_of X G a_C8, ⟨mk_C8, a_C8___init__, i_C8___init__, kc_C8⟩, bMk F_C8___init__ (fun _ _ _ _ _ _ us hl => match us, hl with | [_, _], _ => rfl), .nil⟩⟩
  have o_C9 := ok_init_Jump (P := l.prog) (w := w) (base := base) F_C9___init__ T
  have m_Jump_1 : McO l.prog w K mg base (L2.CX l.prog w) 1 "Jump" ([C0, C1, C2, C3, C4, C5, C6, C7, C8, C9, C10, C11, C12, C13, C14, C15, C16, C17, C18, C19, C20, C21, C22, C23, C24, C25, C26].getD 9 0) ["self", "rest"] (spInit ([C0, C1, C2, C3, C4, C5, C6, C7, C8, C9, C10, C11, C12, C13, C14, C15, C16, C17, C18, C19, C20, C21, C22, C23, C24, C25, C26].getD 9 0) ["rest"]) [] := ⟨⟨g_C9___init__, _, _, o_C9, PySem.W.mg_of X G a_C9, ⟨mk_C9, a_C9___init__, i_C9___init__, kc_C9⟩, bMk F_C9___init__ (fun _ _ _ _ _ _ us hl => match us, hl with | [_, _], _ => rfl), .nil⟩⟩
  have o_C10 := ok_init_Same (P := l.prog) (w := w) (base := base) F_C10___init__ T
  have m_Same_2 : McO l.prog w K mg base (L2.CX l.prog w) 1 "Same" ([C0, C1, C2, C3, C4, C5, C6, C7, C8, C9, C10, C11, C12, C13, C14, C15, C16, C17, C18, C19, C20, C21, C22, C23, C24, C25, C26].getD 10 0) ["self", "first", "last"] (spInit ([C0, C1, C2, C3, C4, C5, C6, C7, C8, C9, C10, C11, C12, C13, C14, C15, C16, C17, C18, C19, C20, C21, C22, C23, C24, C25, C26].getD 10 0) ["first", "last"]) [] := ⟨⟨g_C10___init__, _, _, o_C10, PySem.W.mg_of X G a_C10, ⟨mk_C10, a_C10___init__, i_C10___init__, kc_C10⟩, bMk F_C10___init__ (fun _ _ _ _ _ _ us hl => match us, hl with | [_, _, _], _ => rfl), .nil⟩⟩
  have o_C11 := ok_init_Other (P := l.prog) (w := w) (base := base) F_C11___init__ T
  have m_Other_1 : McO l.prog w K mg base (L2.CX l.prog w) 1 "Other" ([C0, C1, C2, C3, C4, C5, C6, C7, C8, C9, C10, C11, C12, C13, C14, C15, C16, C17, C18, C19, C20, C21, C22, C23, C24, C25, C26].getD 11 0) ["self", "rest"] (spInit ([C0, C1, C2, C3, C4, C5, C6, C7, C8, C9, C10, C11, C12, C13, C14, C15, C16, C17, C18, C19, C20, C21, C22, C23, C24, C25, C26].getD 11 0) ["rest"]) [] := ⟨⟨g_C11___init__, _, _, o_C11, PySem.W.mg_of X G a_C11, ⟨mk_C11, a_C11___init__, i_C11___init__, kc_C11⟩, bMk F_C11___init__ (fun _ _ _ _ _ _ us hl => match us, hl with | [_, _], _ => rfl), .nil⟩⟩
  have o_C12 := ok_init_Surely (P := l.prog) (w := w) (base := base) F_C12___init__ T
  have m_Surely_2 : McO l.prog w K mg base (L2.CX l.prog w) 1 "Surely" ([C0, C1, C2, C3, C4, C5, C6, C7, C8, C9, C10, C11, C12, C13, C14, C15, C16, C17, C18, C19, C20, C21, C22, C23, C24, C25, C26].getD 12 0) ["self", "never", "steady"] (spInit ([C0, C1, C2, C3, C4, C5, C6, C7, C8, C9, C10, C11, C12, C13, C14, C15, C16, C17, C18, C19, C20, C21, C22, C23, C24, C25, C26].getD 12 0) ["never", "steady"]) [] := ⟨⟨g_C12___init__, _, _, o_C12, PySem.W.mg_of X G a_C12, ⟨mk_C12, a_C12___init__, i_C12___init__, kc_C12⟩, bMk F_C12___init__ (fun _ _ _ _ _ _ us hl => match us, hl with | [_, _, _], _ => rfl), .nil⟩⟩
  have o_C13 := ok_init_Counter (P := l.prog) (w := w) (base := base) F_C13___init__ T
  have m_Counter_2 : McO l.prog w K mg base (L2.CX l.prog w) 1 "Counter" ([C0, C1, C2, C3, C4, C5, C6, C7, C8, C9, C10, C11, C12, C13, C14, C15, C16, C17, C18, C19, C20, C21, C22, C23, C24, C25, C26].getD 13 0) ["self", "total", "counts"] (spInit ([C0, C1, C2, C3, C4, C5, C6, C7, C8, C9, C10, C11, C12, C13, C14, C15, C16, C17, C18, C19, C20, C21, C22, C23, C24, C25, C26].getD 13 0) ["total", "counts"]) [] := ⟨⟨g_C13___init__, _, _, o_C13, PySem.W.mg_of X G a_C13, ⟨mk_C13, a_C13___init__, i_C13___init__, kc_C13⟩, bMk F_C13___init__ (fun _ _ _ _ _ _ us hl => match us, hl with | [_, _, _], _ => rfl), .nil⟩⟩
  have o_C14 := ok_init_Undecided (P := l.prog) (w := w) (base := base) F_C14___init__ T
  have m_Undecided_1 : McO l.prog w K mg base (L2.CX l.prog w) 1 "Undecided" ([C0, C1, C2, C3, C4, C5, C6, C7, C8, C9, C10, C11, C12, C13, C14, C15, C16, C17, C18, C19, C20, C21, C22, C23, C24, C25, C26].getD 14 0) ["self", "upto"] (spInit ([C0, C1, C2, C3, C4, C5, C6, C7, C8, C9, C10, C11, C12, C13, C14, C15, C16, C17, C18, C19, C20, C21, C22, C23, C24, C25, C26].getD 14 0) ["upto"]) [] := ⟨⟨g_C14___init__, _, _, o_C14, PySem.W.mg_of X G a_C14, ⟨mk_C14, a_C14___init__, i_C14___init__, kc_C14⟩, bMk F_C14___init__ (fun _ _ _ _ _ _ us hl => match us, hl with | [_, _], _ => rfl), .nil⟩⟩
  have o_C15 := ok_init_Bound (P := l.prog) (w := w) (base := base) F_C15___init__ T
  have m_Bound_2 : McO l.prog w K mg base (L2.CX l.prog w) 1 "Bound" ([C0, C1, C2, C3, C4, C5, C6, C7, C8, C9, C10, C11, C12, C13, C14, C15, C16, C17, C18, C19, C20, C21, C22, C23, C24, C25, C26].getD 15 0) ["self", "late", "rest"] (spInit ([C0, C1, C2, C3, C4, C5, C6, C7, C8, C9, C10, C11, C12, C13, C14, C15, C16, C17, C18, C19, C20, C21, C22, C23, C24, C25, C26].getD 15 0) ["late", "rest"]) [] := ⟨⟨g_C15___init__, _, _, o_C15, PySem.W.mg_of X G a_C15, ⟨mk_C15, a_C15___init__, i_C15___init__, kc_C15⟩, bMk F_C15___init__ (fun _ _ _ _ _ _ us hl => match us, hl with | [_, _, _], _ => rfl), .nil⟩⟩
  have o_C16 := ok_init_Endless (P := l.prog) (w := w) (base := base) F_C16___init__ T
  have m_Endless_2 : McO l.prog w K mg base (L2.CX l.prog w) 1 "Endless" ([C0, C1, C2, C3, C4, C5, C6, C7, C8, C9, C10, C11, C12, C13, C14, C15, C16, C17, C18, C19, C20, C21, C22, C23, C24, C25, C26].getD 16 0) ["self", "residue", "begin"] (spInit ([C0, C1, C2, C3, C4, C5, C6, C7, C8, C9, C10, C11, C12, C13, C14, C15, C16, C17, C18, C19, C20, C21, C22, C23, C24, C25, C26].getD 16 0) ["residue", "begin"]) [] := ⟨⟨g_C16___init__, _, _, o_C16, PySem.W.mg_of X G a_C16, ⟨mk_C16, a_C16___init__, i_C16___init__, kc_C16⟩, bMk F_C16___init__ (fun _ _ _ _ _ _ us hl => match us, hl with | [_, _, _], _ => rfl), .nil⟩⟩
  have o_C17 := ok_init_Within (P := l.prog) (w := w) (base := base) F_C17___init__ T
  have m_Within_1 : McO l.prog w K mg base (L2.CX l.prog w) 1 "Within" ([C0, C1, C2, C3, C4, C5, C6, C7, C8, C9, C10, C11, C12, C13, C14, C15, C16, C17, C18, C19, C20, C21, C22, C23, C24, C25, C26].getD 17 0) ["self", "table"] (spInit ([C0, C1, C2, C3, C4, C5, C6, C7, C8, C9, C10, C11, C12, C13, C14, C15, C16, C17, C18, C19, C20, C21, C22, C23, C24, C25, C26].getD 17 0) ["table"]) [] := ⟨⟨g_C17___init__, _, _, o_C17, PySem.W.mg_of X G a_C17, ⟨mk_C17, a_C17___init__, i_C17___init__, kc_C17⟩, bMk F_C17___init__ (fun _ _ _ _ _ _ us hl => match us, hl with | [_, _], _ => rfl), .nil⟩⟩
  have o_C18 := ok_init_Beyond (P := l.prog) (w := w) (base := base) F_C18___init__ T
  have m_Beyond_2 : McO l.prog w K mg base (L2.CX l.prog w) 1 "Beyond" ([C0, C1, C2, C3, C4, C5, C6, C7, C8, C9, C10, C11, C12, C13, C14, C15, C16, C17, C18, C19, C20, C21, C22, C23, C24, C25, C26].getD 18 0) ["self", "rest", "late"] (spInit ([C0, C1, C2, C3, C4, C5, C6, C7, C8, C9, C10, C11, C12, C13, C14, C15, C16, C17, C18, C19, C20, C21, C22, C23, C24, C25, C26].getD 18 0) ["rest", "late"]) [] := ⟨⟨g_C18___init__, _, _, o_C18, PySem.W.mg_of X G a_C18, ⟨mk_C18, a_C18___init__, i_C18___init__, kc_C18⟩, bMk F_C18___init__ (fun _ _ _ _ _ _ us hl => match us, hl with | [_, _, _], _ => rfl), .nil⟩⟩
  have o_C19 := ok_init_Latest (P := l.prog) (w := w) (base := base) F_C19___init__ T
  have m_Latest_3 : McO l.prog w K mg base (L2.CX l.prog w) 1 "Latest" ([C0, C1, C2, C3, C4, C5, C6, C7, C8, C9, C10, C11, C12, C13, C14, C15, C16, C17, C18, C19, C20, C21, C22, C23, C24, C25, C26].getD 19 0) ["self", "late", "at", "world"] (spInit ([C0, C1, C2, C3, C4, C5, C6, C7, C8, C9, C10, C11, C12, C13, C14, C15, C16, C17, C18, C19, C20, C21, C22, C23, C24, C25, C26].getD 19 0) ["late", "at", "world"]) [] := ⟨⟨g_C19___init__, _, _, o_C19, PySem.W.mg_of X G a_C19, ⟨mk_C19, a_C19___init__, i_C19___init__, kc_C19⟩, bMk F_C19___init__ (fun _ _ _ _ _ _ us hl => match us, hl with | [_, _, _, _], _ => rfl), .nil⟩⟩
  have o_C20 := ok_init_Taking (P := l.prog) (w := w) (base := base) F_C20___init__ T
  have m_Taking_4 : McO l.prog w K mg base (L2.CX l.prog w) 1 "Taking" ([C0, C1, C2, C3, C4, C5, C6, C7, C8, C9, C10, C11, C12, C13, C14, C15, C16, C17, C18, C19, C20, C21, C22, C23, C24, C25, C26].getD 20 0) ["self", "worker", "at", "begun", "ended"] (spInit ([C0, C1, C2, C3, C4, C5, C6, C7, C8, C9, C10, C11, C12, C13, C14, C15, C16, C17, C18, C19, C20, C21, C22, C23, C24, C25, C26].getD 20 0) ["worker", "at", "begun", "ended"]) [] := ⟨⟨g_C20___init__, _, _, o_C20, PySem.W.mg_of X G a_C20, ⟨mk_C20, a_C20___init__, i_C20___init__, kc_C20⟩, bMk F_C20___init__ (fun _ _ _ _ _ _ us hl => match us, hl with | [_, _, _, _, _], _ => rfl), .nil⟩⟩
  have o_C21 := ok_init_Fits (P := l.prog) (w := w) (base := base) F_C21___init__ T
  have m_Fits_1 : McO l.prog w K mg base (L2.CX l.prog w) 1 "Fits" ([C0, C1, C2, C3, C4, C5, C6, C7, C8, C9, C10, C11, C12, C13, C14, C15, C16, C17, C18, C19, C20, C21, C22, C23, C24, C25, C26].getD 21 0) ["self", "world"] (spInit ([C0, C1, C2, C3, C4, C5, C6, C7, C8, C9, C10, C11, C12, C13, C14, C15, C16, C17, C18, C19, C20, C21, C22, C23, C24, C25, C26].getD 21 0) ["world"]) [] := ⟨⟨g_C21___init__, _, _, o_C21, PySem.W.mg_of X G a_C21, ⟨mk_C21, a_C21___init__, i_C21___init__, kc_C21⟩, bMk F_C21___init__ (fun _ _ _ _ _ _ us hl => match us, hl with | [_, _], _ => rfl), .nil⟩⟩
  have o_C22 := ok_init_Misfit (P := l.prog) (w := w) (base := base) F_C22___init__ T
  have m_Misfit_2 : McO l.prog w K mg base (L2.CX l.prog w) 1 "Misfit" ([C0, C1, C2, C3, C4, C5, C6, C7, C8, C9, C10, C11, C12, C13, C14, C15, C16, C17, C18, C19, C20, C21, C22, C23, C24, C25, C26].getD 22 0) ["self", "at", "why"] (spInit ([C0, C1, C2, C3, C4, C5, C6, C7, C8, C9, C10, C11, C12, C13, C14, C15, C16, C17, C18, C19, C20, C21, C22, C23, C24, C25, C26].getD 22 0) ["at", "why"]) [] := ⟨⟨g_C22___init__, _, _, o_C22, PySem.W.mg_of X G a_C22, ⟨mk_C22, a_C22___init__, i_C22___init__, kc_C22⟩, bMk F_C22___init__ (fun _ _ _ _ _ _ us hl => match us, hl with | [_, _, _], _ => rfl), .nil⟩⟩
  have o_C23 := ok_init_Ring (P := l.prog) (w := w) (base := base) F_C23___init__ T
  have m_Ring_1 : McO l.prog w K mg base (L2.CX l.prog w) 1 "Ring" ([C0, C1, C2, C3, C4, C5, C6, C7, C8, C9, C10, C11, C12, C13, C14, C15, C16, C17, C18, C19, C20, C21, C22, C23, C24, C25, C26].getD 23 0) ["self", "workers"] (spInit ([C0, C1, C2, C3, C4, C5, C6, C7, C8, C9, C10, C11, C12, C13, C14, C15, C16, C17, C18, C19, C20, C21, C22, C23, C24, C25, C26].getD 23 0) ["workers"]) [] := ⟨⟨g_C23___init__, _, _, o_C23, PySem.W.mg_of X G a_C23, ⟨mk_C23, a_C23___init__, i_C23___init__, kc_C23⟩, bMk F_C23___init__ (fun _ _ _ _ _ _ us hl => match us, hl with | [_, _], _ => rfl), .nil⟩⟩
  have o_C24 := ok_init_Came (P := l.prog) (w := w) (base := base) F_C24___init__ T
  have m_Came_2 : McO l.prog w K mg base (L2.CX l.prog w) 1 "Came" ([C0, C1, C2, C3, C4, C5, C6, C7, C8, C9, C10, C11, C12, C13, C14, C15, C16, C17, C18, C19, C20, C21, C22, C23, C24, C25, C26].getD 24 0) ["self", "least", "most"] (spInit ([C0, C1, C2, C3, C4, C5, C6, C7, C8, C9, C10, C11, C12, C13, C14, C15, C16, C17, C18, C19, C20, C21, C22, C23, C24, C25, C26].getD 24 0) ["least", "most"]) [] := ⟨⟨g_C24___init__, _, _, o_C24, PySem.W.mg_of X G a_C24, ⟨mk_C24, a_C24___init__, i_C24___init__, kc_C24⟩, bMk F_C24___init__ (fun _ _ _ _ _ _ us hl => match us, hl with | [_, _, _], _ => rfl), .nil⟩⟩
  have o_C25 := ok_init_BestOrder (P := l.prog) (w := w) (base := base) F_C25___init__ T
  have m_BestOrder_3 : McO l.prog w K mg base (L2.CX l.prog w) 1 "BestOrder" ([C0, C1, C2, C3, C4, C5, C6, C7, C8, C9, C10, C11, C12, C13, C14, C15, C16, C17, C18, C19, C20, C21, C22, C23, C24, C25, C26].getD 25 0) ["self", "names", "late", "last"] (spInit ([C0, C1, C2, C3, C4, C5, C6, C7, C8, C9, C10, C11, C12, C13, C14, C15, C16, C17, C18, C19, C20, C21, C22, C23, C24, C25, C26].getD 25 0) ["names", "late", "last"]) [] := ⟨⟨g_C25___init__, _, _, o_C25, PySem.W.mg_of X G a_C25, ⟨mk_C25, a_C25___init__, i_C25___init__, kc_C25⟩, bMk F_C25___init__ (fun _ _ _ _ _ _ us hl => match us, hl with | [_, _, _, _], _ => rfl), .nil⟩⟩
  have o_C26 := ok_init_PoolTaking (P := l.prog) (w := w) (base := base) F_C26___init__ T
  have m_PoolTaking_5 : McO l.prog w K mg base (L2.CX l.prog w) 1 "PoolTaking" ([C0, C1, C2, C3, C4, C5, C6, C7, C8, C9, C10, C11, C12, C13, C14, C15, C16, C17, C18, C19, C20, C21, C22, C23, C24, C25, C26].getD 26 0) ["self", "loop", "worker", "many", "begun", "ended"] (spInit ([C0, C1, C2, C3, C4, C5, C6, C7, C8, C9, C10, C11, C12, C13, C14, C15, C16, C17, C18, C19, C20, C21, C22, C23, C24, C25, C26].getD 26 0) ["loop", "worker", "many", "begun", "ended"]) [] := ⟨⟨g_C26___init__, _, _, o_C26, PySem.W.mg_of X G a_C26, ⟨mk_C26, a_C26___init__, i_C26___init__, kc_C26⟩, bMk F_C26___init__ (fun _ _ _ _ _ _ us hl => match us, hl with | [_, _, _, _, _, _], _ => rfl), .nil⟩⟩
  have m_NoList_k : McN l.prog w K mg base (L2.CX l.prog w) 1 "NoList" ([C0, C1, C2, C3, C4, C5, C6, C7, C8, C9, C10, C11, C12, C13, C14, C15, C16, C17, C18, C19, C20, C21, C22, C23, C24, C25, C26].getD 1 0) 0 ["self", "rests"] (spInit ([C0, C1, C2, C3, C4, C5, C6, C7, C8, C9, C10, C11, C12, C13, C14, C15, C16, C17, C18, C19, C20, C21, C22, C23, C24, C25, C26].getD 1 0) ["rests"]) ["rests"] (permG [0]) := ⟨⟨g_C1___init__, _, _, o_C1, PySem.W.mg_of X G a_C1, ⟨mk_C1, a_C1___init__, i_C1___init__, kc_C1⟩, kbnQ F_C1___init__ 0 ["rests"] [0] (fun kV doc pm an cdv ct us ws h1 h2 => match us, ws, h1, h2 with | [_], [_], _, _ => rfl)⟩⟩
  have m_Least_k : McN l.prog w K mg base (L2.CX l.prog w) 1 "Least" ([C0, C1, C2, C3, C4, C5, C6, C7, C8, C9, C10, C11, C12, C13, C14, C15, C16, C17, C18, C19, C20, C21, C22, C23, C24, C25, C26].getD 3 0) 0 ["self", "limit", "chunks", "below"] (spInit ([C0, C1, C2, C3, C4, C5, C6, C7, C8, C9, C10, C11, C12, C13, C14, C15, C16, C17, C18, C19, C20, C21, C22, C23, C24, C25, C26].getD 3 0) ["limit", "chunks", "below"]) ["below", "chunks", "limit"] (permG [2, 1, 0]) := ⟨⟨g_C3___init__, _, _, o_C3, PySem.W.mg_of X G a_C3, ⟨mk_C3, a_C3___init__, i_C3___init__, kc_C3⟩, kbnQ F_C3___init__ 0 ["below", "chunks", "limit"] [2, 1, 0] (fun kV doc pm an cdv ct us ws h1 h2 => match us, ws, h1, h2 with | [_], [_, _, _], _, _ => rfl)⟩⟩
  have m_Bound_k : McN l.prog w K mg base (L2.CX l.prog w) 1 "Bound" ([C0, C1, C2, C3, C4, C5, C6, C7, C8, C9, C10, C11, C12, C13, C14, C15, C16, C17, C18, C19, C20, C21, C22, C23, C24, C25, C26].getD 15 0) 0 ["self", "late", "rest"] (spInit ([C0, C1, C2, C3, C4, C5, C6, C7, C8, C9, C10, C11, C12, C13, C14, C15, C16, C17, C18, C19, C20, C21, C22, C23, C24, C25, C26].getD 15 0) ["late", "rest"]) ["rest", "late"] (permG [1, 0]) := ⟨⟨g_C15___init__, _, _, o_C15, PySem.W.mg_of X G a_C15, ⟨mk_C15, a_C15___init__, i_C15___init__, kc_C15⟩, kbnQ F_C15___init__ 0 ["rest", "late"] [1, 0] (fun kV doc pm an cdv ct us ws h1 h2 => match us, ws, h1, h2 with | [_], [_, _], _, _ => rfl)⟩⟩
  have m_Within_k : McN l.prog w K mg base (L2.CX l.prog w) 1 "Within" ([C0, C1, C2, C3, C4, C5, C6, C7, C8, C9, C10, C11, C12, C13, C14, C15, C16, C17, C18, C19, C20, C21, C22, C23, C24, C25, C26].getD 17 0) 0 ["self", "table"] (spInit ([C0, C1, C2, C3, C4, C5, C6, C7, C8, C9, C10, C11, C12, C13, C14, C15, C16, C17, C18, C19, C20, C21, C22, C23, C24, C25, C26].getD 17 0) ["table"]) ["table"] (permG [0]) := ⟨⟨g_C17___init__, _, _, o_C17, PySem.W.mg_of X G a_C17, ⟨mk_C17, a_C17___init__, i_C17___init__, kc_C17⟩, kbnQ F_C17___init__ 0 ["table"] [0] (fun kV doc pm an cdv ct us ws h1 h2 => match us, ws, h1, h2 with | [_], [_], _, _ => rfl)⟩⟩
  have m_NeverLess_k : McN l.prog w K mg base (L2.CX l.prog w) 1 "NeverLess" ([C0, C1, C2, C3, C4, C5, C6, C7, C8, C9, C10, C11, C12, C13, C14, C15, C16, C17, C18, C19, C20, C21, C22, C23, C24, C25, C26].getD 6 0) 0 ["self", "begins"] (spInit ([C0, C1, C2, C3, C4, C5, C6, C7, C8, C9, C10, C11, C12, C13, C14, C15, C16, C17, C18, C19, C20, C21, C22, C23, C24, C25, C26].getD 6 0) ["begins"]) ["begins"] (permG [0]) := ⟨⟨g_C6___init__, _, _, o_C6, PySem.W.mg_of X G a_C6, ⟨mk_C6, a_C6___init__, i_C6___init__, kc_C6⟩, kbnQ F_C6___init__ 0 ["begins"] [0] (fun kV doc pm an cdv ct us ws h1 h2 => match us, ws, h1, h2 with | [_], [_], _, _ => rfl)⟩⟩
  have m_Surely_k : McN l.prog w K mg base (L2.CX l.prog w) 1 "Surely" ([C0, C1, C2, C3, C4, C5, C6, C7, C8, C9, C10, C11, C12, C13, C14, C15, C16, C17, C18, C19, C20, C21, C22, C23, C24, C25, C26].getD 12 0) 0 ["self", "never", "steady"] (spInit ([C0, C1, C2, C3, C4, C5, C6, C7, C8, C9, C10, C11, C12, C13, C14, C15, C16, C17, C18, C19, C20, C21, C22, C23, C24, C25, C26].getD 12 0) ["never", "steady"]) ["steady", "never"] (permG [1, 0]) := ⟨⟨g_C12___init__, _, _, o_C12, PySem.W.mg_of X G a_C12, ⟨mk_C12, a_C12___init__, i_C12___init__, kc_C12⟩, kbnQ F_C12___init__ 0 ["steady", "never"] [1, 0] (fun kV doc pm an cdv ct us ws h1 h2 => match us, ws, h1, h2 with | [_], [_, _], _, _ => rfl)⟩⟩
  have m_Less_k : McN l.prog w K mg base (L2.CX l.prog w) 1 "Less" ([C0, C1, C2, C3, C4, C5, C6, C7, C8, C9, C10, C11, C12, C13, C14, C15, C16, C17, C18, C19, C20, C21, C22, C23, C24, C25, C26].getD 7 0) 0 ["self", "rest"] (spInit ([C0, C1, C2, C3, C4, C5, C6, C7, C8, C9, C10, C11, C12, C13, C14, C15, C16, C17, C18, C19, C20, C21, C22, C23, C24, C25, C26].getD 7 0) ["rest"]) ["rest"] (permG [0]) := ⟨⟨g_C7___init__, _, _, o_C7, PySem.W.mg_of X G a_C7, ⟨mk_C7, a_C7___init__, i_C7___init__, kc_C7⟩, kbnQ F_C7___init__ 0 ["rest"] [0] (fun kV doc pm an cdv ct us ws h1 h2 => match us, ws, h1, h2 with | [_], [_], _, _ => rfl)⟩⟩
  have m_Undecided_k : McN l.prog w K mg base (L2.CX l.prog w) 1 "Undecided" ([C0, C1, C2, C3, C4, C5, C6, C7, C8, C9, C10, C11, C12, C13, C14, C15, C16, C17, C18, C19, C20, C21, C22, C23, C24, C25, C26].getD 14 0) 0 ["self", "upto"] (spInit ([C0, C1, C2, C3, C4, C5, C6, C7, C8, C9, C10, C11, C12, C13, C14, C15, C16, C17, C18, C19, C20, C21, C22, C23, C24, C25, C26].getD 14 0) ["upto"]) ["upto"] (permG [0]) := ⟨⟨g_C14___init__, _, _, o_C14, PySem.W.mg_of X G a_C14, ⟨mk_C14, a_C14___init__, i_C14___init__, kc_C14⟩, kbnQ F_C14___init__ 0 ["upto"] [0] (fun kV doc pm an cdv ct us ws h1 h2 => match us, ws, h1, h2 with | [_], [_], _, _ => rfl)⟩⟩
  have m_BatchEndless_k : McN l.prog w K mg base (L2.CX l.prog w) 1 "BatchEndless" ([C0, C1, C2, C3, C4, C5, C6, C7, C8, C9, C10, C11, C12, C13, C14, C15, C16, C17, C18, C19, C20, C21, C22, C23, C24, C25, C26].getD 5 0) 0 ["self", "spot", "rise"] (spInit ([C0, C1, C2, C3, C4, C5, C6, C7, C8, C9, C10, C11, C12, C13, C14, C15, C16, C17, C18, C19, C20, C21, C22, C23, C24, C25, C26].getD 5 0) ["spot", "rise"]) ["spot", "rise"] (permG [0, 1]) := ⟨⟨g_C5___init__, _, _, o_C5, PySem.W.mg_of X G a_C5, ⟨mk_C5, a_C5___init__, i_C5___init__, kc_C5⟩, kbnQ F_C5___init__ 0 ["spot", "rise"] [0, 1] (fun kV doc pm an cdv ct us ws h1 h2 => match us, ws, h1, h2 with | [_], [_, _], _, _ => rfl)⟩⟩
  have m_Fits_k : McN l.prog w K mg base (L2.CX l.prog w) 1 "Fits" ([C0, C1, C2, C3, C4, C5, C6, C7, C8, C9, C10, C11, C12, C13, C14, C15, C16, C17, C18, C19, C20, C21, C22, C23, C24, C25, C26].getD 21 0) 0 ["self", "world"] (spInit ([C0, C1, C2, C3, C4, C5, C6, C7, C8, C9, C10, C11, C12, C13, C14, C15, C16, C17, C18, C19, C20, C21, C22, C23, C24, C25, C26].getD 21 0) ["world"]) ["world"] (permG [0]) := ⟨⟨g_C21___init__, _, _, o_C21, PySem.W.mg_of X G a_C21, ⟨mk_C21, a_C21___init__, i_C21___init__, kc_C21⟩, kbnQ F_C21___init__ 0 ["world"] [0] (fun kV doc pm an cdv ct us ws h1 h2 => match us, ws, h1, h2 with | [_], [_], _, _ => rfl)⟩⟩
  have m_Ring_k : McN l.prog w K mg base (L2.CX l.prog w) 1 "Ring" ([C0, C1, C2, C3, C4, C5, C6, C7, C8, C9, C10, C11, C12, C13, C14, C15, C16, C17, C18, C19, C20, C21, C22, C23, C24, C25, C26].getD 23 0) 0 ["self", "workers"] (spInit ([C0, C1, C2, C3, C4, C5, C6, C7, C8, C9, C10, C11, C12, C13, C14, C15, C16, C17, C18, C19, C20, C21, C22, C23, C24, C25, C26].getD 23 0) ["workers"]) ["workers"] (permG [0]) := ⟨⟨g_C23___init__, _, _, o_C23, PySem.W.mg_of X G a_C23, ⟨mk_C23, a_C23___init__, i_C23___init__, kc_C23⟩, kbnQ F_C23___init__ 0 ["workers"] [0] (fun kV doc pm an cdv ct us ws h1 h2 => match us, ws, h1, h2 with | [_], [_], _, _ => rfl)⟩⟩
  have m_Taking_k : McN l.prog w K mg base (L2.CX l.prog w) 1 "Taking" ([C0, C1, C2, C3, C4, C5, C6, C7, C8, C9, C10, C11, C12, C13, C14, C15, C16, C17, C18, C19, C20, C21, C22, C23, C24, C25, C26].getD 20 0) 0 ["self", "worker", "at", "begun", "ended"] (spInit ([C0, C1, C2, C3, C4, C5, C6, C7, C8, C9, C10, C11, C12, C13, C14, C15, C16, C17, C18, C19, C20, C21, C22, C23, C24, C25, C26].getD 20 0) ["worker", "at", "begun", "ended"]) ["ended", "begun", "at", "worker"] (permG [3, 2, 1, 0]) := ⟨⟨g_C20___init__, _, _, o_C20, PySem.W.mg_of X G a_C20, ⟨mk_C20, a_C20___init__, i_C20___init__, kc_C20⟩, kbnQ F_C20___init__ 0 ["ended", "begun", "at", "worker"] [3, 2, 1, 0] (fun kV doc pm an cdv ct us ws h1 h2 => match us, ws, h1, h2 with | [_], [_, _, _, _], _, _ => rfl)⟩⟩
  have m_PoolTaking_k : McN l.prog w K mg base (L2.CX l.prog w) 1 "PoolTaking" ([C0, C1, C2, C3, C4, C5, C6, C7, C8, C9, C10, C11, C12, C13, C14, C15, C16, C17, C18, C19, C20, C21, C22, C23, C24, C25, C26].getD 26 0) 3 ["self", "loop", "worker", "many", "begun", "ended"] (spInit ([C0, C1, C2, C3, C4, C5, C6, C7, C8, C9, C10, C11, C12, C13, C14, C15, C16, C17, C18, C19, C20, C21, C22, C23, C24, C25, C26].getD 26 0) ["loop", "worker", "many", "begun", "ended"]) ["ended", "begun"] (permG [0, 1, 2, 4, 3]) := ⟨⟨g_C26___init__, _, _, o_C26, PySem.W.mg_of X G a_C26, ⟨mk_C26, a_C26___init__, i_C26___init__, kc_C26⟩, kbnQ F_C26___init__ 3 ["ended", "begun"] [0, 1, 2, 4, 3] (fun kV doc pm an cdv ct us ws h1 h2 => match us, ws, h1, h2 with | [_, _, _, _], [_, _], _, _ => rfl)⟩⟩
  have c_own_row : MeK l.prog w K mg base ([C0, C1, C2, C3, C4, C5, C6, C7, C8, C9, C10, C11, C12, C13, C14, C15, C16, C17, C18, C19, C20, C21, C22, C23, C24, C25, C26].getD 26 0) "own_row" 1 (spOwnRow ([C0, C1, C2, C3, C4, C5, C6, C7, C8, C9, C10, C11, C12, C13, C14, C15, C16, C17, C18, C19, C20, C21, C22, C23, C24, C25, C26].getD 26 0)) := ⟨⟨g_C26_own_row, _, ⟨a_C26_own_row, i_C26_own_row, k_C26_own_row⟩, ok_own_row (P := l.prog) (w := w) (base := base) F_C26_own_row T, bMk F_C26_own_row (fun _ _ _ _ _ _ us hl => match us, hl with | [_], _ => rfl)⟩⟩
  have e_Fewest : Me l.prog w K mg base ([C0, C1, C2, C3, C4, C5, C6, C7, C8, C9, C10, C11, C12, C13, C14, C15, C16, C17, C18, C19, C20, C21, C22, C23, C24, C25, C26].getD 0 0) "__eq__" 2 ["self", "other"] (spEqC K ([C0, C1, C2, C3, C4, C5, C6, C7, C8, C9, C10, C11, C12, C13, C14, C15, C16, C17, C18, C19, C20, C21, C22, C23, C24, C25, C26].getD 0 0) ["chunks"]) := ⟨⟨g_C0___eq__, _, a_C0___eq__, i_C0___eq__, ok_eq_Fewest (P := l.prog) (w := w) (base := base) F_C0___eq__ T, bMk F_C0___eq__ (fun _ _ _ _ _ _ us hl => match us, hl with | [_, _], _ => rfl)⟩⟩
  have e_NoList : Me l.prog w K mg base ([C0, C1, C2, C3, C4, C5, C6, C7, C8, C9, C10, C11, C12, C13, C14, C15, C16, C17, C18, C19, C20, C21, C22, C23, C24, C25, C26].getD 1 0) "__eq__" 2 ["self", "other"] (spEqC K ([C0, C1, C2, C3, C4, C5, C6, C7, C8, C9, C10, C11, C12, C13, C14, C15, C16, C17, C18, C19, C20, C21, C22, C23, C24, C25, C26].getD 1 0) ["rests"]) := ⟨⟨g_C1___eq__, _, a_C1___eq__, i_C1___eq__, ok_eq_NoList (P := l.prog) (w := w) (base := base) F_C1___eq__ T, bMk F_C1___eq__ (fun _ _ _ _ _ _ us hl => match us, hl with | [_, _], _ => rfl)⟩⟩
  have e_Greatest : Me l.prog w K mg base ([C0, C1, C2, C3, C4, C5, C6, C7, C8, C9, C10, C11, C12, C13, C14, C15, C16, C17, C18, C19, C20, C21, C22, C23, C24, C25, C26].getD 2 0) "__eq__" 2 ["self", "other"] (spEqC K ([C0, C1, C2, C3, C4, C5, C6, C7, C8, C9, C10, C11, C12, C13, C14, C15, C16, C17, C18, C19, C20, C21, C22, C23, C24, C25, C26].getD 2 0) ["total", "chunks"]) := ⟨⟨g_C2___eq__, _, a_C2___eq__, i_C2___eq__, ok_eq_Greatest (P := l.prog) (w := w) (base := base) F_C2___eq__ T, bMk F_C2___eq__ (fun _ _ _ _ _ _ us hl => match us, hl with | [_, _], _ => rfl)⟩⟩
  have e_Least : Me l.prog w K mg base ([C0, C1, C2, C3, C4, C5, C6, C7, C8, C9, C10, C11, C12, C13, C14, C15, C16, C17, C18, C19, C20, C21, C22, C23, C24, C25, C26].getD 3 0) "__eq__" 2 ["self", "other"] (spEqC K ([C0, C1, C2, C3, C4, C5, C6, C7, C8, C9, C10, C11, C12, C13, C14, C15, C16, C17, C18, C19, C20, C21, C22, C23, C24, C25, C26].getD 3 0) ["limit", "chunks", "below"]) := ⟨⟨g_C3___eq__, _, a_C3___eq__, i_C3___eq__, ok_eq_Least (P := l.prog) (w := w) (base := base) F_C3___eq__ T, bMk F_C3___eq__ (fun _ _ _ _ _ _ us hl => match us, hl with | [_, _], _ => rfl)⟩⟩
  have e_BatchBound : Me l.prog w K mg base ([C0, C1, C2, C3, C4, C5, C6, C7, C8, C9, C10, C11, C12, C13, C14, C15, C16, C17, C18, C19, C20, C21, C22, C23, C24, C25, C26].getD 4 0) "__eq__" 2 ["self", "other"] (spEqC K ([C0, C1, C2, C3, C4, C5, C6, C7, C8, C9, C10, C11, C12, C13, C14, C15, C16, C17, C18, C19, C20, C21, C22, C23, C24, C25, C26].getD 4 0) ["late", "rest", "spot"]) := ⟨⟨g_C4___eq__, _, a_C4___eq__, i_C4___eq__, ok_eq_BatchBound (P := l.prog) (w := w) (base := base) F_C4___eq__ T, bMk F_C4___eq__ (fun _ _ _ _ _ _ us hl => match us, hl with | [_, _], _ => rfl)⟩⟩
  have e_BatchEndless : Me l.prog w K mg base ([C0, C1, C2, C3, C4, C5, C6, C7, C8, C9, C10, C11, C12, C13, C14, C15, C16, C17, C18, C19, C20, C21, C22, C23, C24, C25, C26].getD 5 0) "__eq__" 2 ["self", "other"] (spEqC K ([C0, C1, C2, C3, C4, C5, C6, C7, C8, C9, C10, C11, C12, C13, C14, C15, C16, C17, C18, C19, C20, C21, C22, C23, C24, C25, C26].getD 5 0) ["spot", "rise"]) := ⟨⟨g_C5___eq__, _, a_C5___eq__, i_C5___eq__, ok_eq_BatchEndless (P := l.prog) (w := w) (base := base) F_C5___eq__ T, bMk F_C5___eq__ (fun _ _ _ _ _ _ us hl => match us, hl with | [_, _], _ => rfl)⟩⟩
  have e_NeverLess : Me l.prog w K mg base ([C0, C1, C2, C3, C4, C5, C6, C7, C8, C9, C10, C11, C12, C13, C14, C15, C16, C17, C18, C19, C20, C21, C22, C23, C24, C25, C26].getD 6 0) "__eq__" 2 ["self", "other"] (spEqC K ([C0, C1, C2, C3, C4, C5, C6, C7, C8, C9, C10, C11, C12, C13, C14, C15, C16, C17, C18, C19, C20, C21, C22, C23, C24, C25, C26].getD 6 0) ["begins"]) := ⟨⟨g_C6___eq__, _, a_C6___eq__, i_C6___eq__, ok_eq_NeverLess (P := l.prog) (w := w) (base := base) F_C6___eq__ T, bMk F_C6___eq__ (fun _ _ _ _ _ _ us hl => match us, hl with | [_, _], _ => rfl)⟩⟩
  have e_Less : Me l.prog w K mg base ([C0, C1, C2, C3, C4, C5, C6, C7, C8, C9, C10, C11, C12, C13, C14, C15, C16, C17, C18, C19, C20, C21, C22, C23, C24, C25, C26].getD 7 0) "__eq__" 2 ["self", "other"] (spEqC K ([C0, C1, C2, C3, C4, C5, C6, C7, C8, C9, C10, C11, C12, C13, C14, C15, C16, C17, C18, C19, C20, C21, C22, C23, C24, C25, C26].getD 7 0) ["rest"]) := ⟨⟨g_C7___eq__, _, a_C7___eq__, i_C7___eq__, ok_eq_Less (P := l.prog) (w := w) (base := base) F_C7___eq__ T, bMk F_C7___eq__ (fun _ _ _ _ _ _ us hl => match us, hl with | [_, _], _ => rfl)⟩⟩
  have e_Steady : Me l.prog w K mg base ([C0, C1, C2, C3, C4, C5, C6, C7, C8, C9, C10, C11, C12, C13, C14, C15, C16, C17, C18, C19, C20, C21, C22, C23, C24, C25, C26].getD 8 0) "__eq__" 2 ["self", "other"] (spEqC K ([C0, C1, C2, C3, C4, C5, C6, C7, C8, C9, C10, C11, C12, C13, C14, C15, C16, C17, C18, C19, C20, C21, C22, C23, C24, C25, C26].getD 8 0) ["begins"]) := ⟨⟨g_C8___eq__, _, a_C8___eq__, i_C8___eq__, ok_eq_Steady (P := l.prog) (w := w) (base := base) F_C8___eq__ T, bMk F_C8___eq__ (fun _ _ _ _ _ _ us hl => match us, hl with | [_, _], _ => rfl)⟩⟩
  have e_Jump : Me l.prog w K mg base ([C0, C1, C2, C3, C4, C5, C6, C7, C8, C9, C10, C11, C12, C13, C14, C15, C16, C17, C18, C19, C20, C21, C22, C23, C24, C25, C26].getD 9 0) "__eq__" 2 ["self", "other"] (spEqC K ([C0, C1, C2, C3, C4, C5, C6, C7, C8, C9, C10, C11, C12, C13, C14, C15, C16, C17, C18, C19, C20, C21, C22, C23, C24, C25, C26].getD 9 0) ["rest"]) := ⟨⟨g_C9___eq__, _, a_C9___eq__, i_C9___eq__, ok_eq_Jump (P := l.prog) (w := w) (base := base) F_C9___eq__ T, bMk F_C9___eq__ (fun _ _ _ _ _ _ us hl => match us, hl with | [_, _], _ => rfl)⟩⟩
  have e_Same : Me l.prog w K mg base ([C0, C1, C2, C3, C4, C5, C6, C7, C8, C9, C10, C11, C12, C13, C14, C15, C16, C17, C18, C19, C20, C21, C22, C23, C24, C25, C26].getD 10 0) "__eq__" 2 ["self", "other"] (spEqC K ([C0, C1, C2, C3, C4, C5, C6, C7, C8, C9, C10, C11, C12, C13, C14, C15, C16, C17, C18, C19, C20, C21, C22, C23, C24, C25, C26].getD 10 0) ["first", "last"]) := ⟨⟨g_C10___eq__, _, a_C10___eq__, i_C10___eq__, ok_eq_Same (P := l.prog) (w := w) (base := base) F_C10___eq__ T, bMk F_C10___eq__ (fun _ _ _ _ _ _ us hl => match us, hl with | [_, _], _ => rfl)⟩⟩
  have e_Other : Me l.prog w K mg base ([C0, C1, C2, C3, C4, C5, C6, C7, C8, C9, C10, C11, C12, C13, C14, C15, C16, C17, C18, C19, C20, C21, C22, C23, C24, C25, C26].getD 11 0) "__eq__" 2 ["self", "other"] (spEqC K ([C0, C1, C2, C3, C4, C5, C6, C7, C8, C9, C10, C11, C12, C13, C14, C15, C16, C17, C18, C19, C20, C21, C22, C23, C24, C25, C26].getD 11 0) ["rest"]) := ⟨⟨g_C11___eq__, _, a_C11___eq__, i_C11___eq__, ok_eq_Other (P := l.prog) (w := w) (base := base) F_C11___eq__ T, bMk F_C11___eq__ (fun _ _ _ _ _ _ us hl => match us, hl with | [_, _], _ => rfl)⟩⟩
  have e_Surely : Me l.prog w K mg base ([C0, C1, C2, C3, C4, C5, C6, C7, C8, C9, C10, C11, C12, C13, C14, C15, C16, C17, C18, C19, C20, C21, C22, C23, C24, C25, C26].getD 12 0) "__eq__" 2 ["self", "other"] (spEqC K ([C0, C1, C2, C3, C4, C5, C6, C7, C8, C9, C10, C11, C12, C13, C14, C15, C16, C17, C18, C19, C20, C21, C22, C23, C24, C25, C26].getD 12 0) ["never", "steady"]) := ⟨⟨g_C12___eq__, _, a_C12___eq__, i_C12___eq__, ok_eq_Surely (P := l.prog) (w := w) (base := base) F_C12___eq__ T, bMk F_C12___eq__ (fun _ _ _ _ _ _ us hl => match us, hl with | [_, _], _ => rfl)⟩⟩
  have e_Counter : Me l.prog w K mg base ([C0, C1, C2, C3, C4, C5, C6, C7, C8, C9, C10, C11, C12, C13, C14, C15, C16, C17, C18, C19, C20, C21, C22, C23, C24, C25, C26].getD 13 0) "__eq__" 2 ["self", "other"] (spEqC K ([C0, C1, C2, C3, C4, C5, C6, C7, C8, C9, C10, C11, C12, C13, C14, C15, C16, C17, C18, C19, C20, C21, C22, C23, C24, C25, C26].getD 13 0) ["total", "counts"]) := ⟨⟨g_C13___eq__, _, a_C13___eq__, i_C13___eq__, ok_eq_Counter (P := l.prog) (w := w) (base := base) F_C13___eq__ T, bMk F_C13___eq__ (fun _ _ _ _ _ _ us hl => match us, hl with | [_, _], _ => rfl)⟩⟩
  have e_Undecided : Me l.prog w K mg base ([C0, C1, C2, C3, C4, C5, C6, C7, C8, C9, C10, C11, C12, C13, C14, C15, C16, C17, C18, C19, C20, C21, C22, C23, C24, C25, C26].getD 14 0) "__eq__" 2 ["self", "other"] (spEqC K ([C0, C1, C2, C3, C4, C5, C6, C7, C8, C9, C10, C11, C12, C13, C14, C15, C16, C17, C18, C19, C20, C21, C22, C23, C24, C25, C26].getD 14 0) ["upto"]) := ⟨⟨g_C14___eq__, _, a_C14___eq__, i_C14___eq__, ok_eq_Undecided (P := l.prog) (w := w) (base := base) F_C14___eq__ T, bMk F_C14___eq__ (fun _ _ _ _ _ _ us hl => match us, hl with | [_, _], _ => rfl)⟩⟩
  have e_Bound : Me l.prog w K mg base ([C0, C1, C2, C3, C4, C5, C6, C7, C8, C9, C10, C11, C12, C13, C14, C15, C16, C17, C18, C19, C20, C21, C22, C23, C24, C25, C26].getD 15 0) "__eq__" 2 ["self", "other"] (spEqC K ([C0, C1, C2, C3, C4, C5, C6, C7, C8, C9, C10, C11, C12, C13, C14, C15, C16, C17, C18, C19, C20, C21, C22, C23, C24, C25, C26].getD 15 0) ["late", "rest"]) := ⟨⟨g_C15___eq__, _, a_C15___eq__, i_C15___eq__, ok_eq_Bound (P := l.prog) (w := w) (base := base) F_C15___eq__ T, bMk F_C15___eq__ (fun _ _ _ _ _ _ us hl => match us, hl with | [_, _], _ => rfl)⟩⟩
  have e_Endless : Me l.prog w K mg base ([C0, C1, C2, C3, C4, C5, C6, C7, C8, C9, C10, C11, C12, C13, C14, C15, C16, C17, C18, C19, C20, C21, C22, C23, C24, C25, C26].getD 16 0) "__eq__" 2 ["self", "other"] (spEqC K ([C0, C1, C2, C3, C4, C5, C6, C7, C8, C9, C10, C11, C12, C13, C14, C15, C16, C17, C18, C19, C20, C21, C22, C23, C24, C25, C26].getD 16 0) ["residue", "begin"]) := ⟨⟨g_C16___eq__, _, a_C16___eq__, i_C16___eq__, ok_eq_Endless (P := l.prog) (w := w) (base := base) F_C16___eq__ T, bMk F_C16___eq__ (fun _ _ _ _ _ _ us hl => match us, hl with | [_, _], _ => rfl)⟩⟩
  have e_Within : Me l.prog w K mg base ([C0, C1, C2, C3, C4, C5, C6, C7, C8, C9, C10, C11, C12, C13, C14, C15, C16, C17, C18, C19, C20, C21, C22, C23, C24, C25, C26].getD 17 0) "__eq__" 2 ["self", "other"] (spEqC K ([C0, C1, C2, C3, C4, C5, C6, C7, C8, C9, C10, C11, C12, C13, C14, C15, C16, C17, C18, C19, C20, C21, C22, C23, C24, C25, C26].getD 17 0) ["table"]) := ⟨⟨g_C17___eq__, _, a_C17___eq__, i_C17___eq__, ok_eq_Within (P := l.prog) (w := w) (base := base) F_C17___eq__ T, bMk F_C17___eq__ (fun _ _ _ _ _ _ us hl => match us, hl with | [_, _], _ => rfl)⟩⟩
  have e_Beyond : Me l.prog w K mg base ([C0, C1, C2, C3, C4, C5, C6, C7, C8, C9, C10, C11, C12, C13, C14, C15, C16, C17, C18, C19, C20, C21, C22, C23, C24, C25, C26].getD 18 0) "__eq__" 2 ["self", "other"] (spEqC K ([C0, C1, C2, C3, C4, C5, C6, C7, C8, C9, C10, C11, C12, C13, C14, C15, C16, C17, C18, C19, C20, C21, C22, C23, C24, C25, C26].getD 18 0) ["rest", "late"]) := ⟨⟨g_C18___eq__, _, a_C18___eq__, i_C18___eq__, ok_eq_Beyond (P := l.prog) (w := w) (base := base) F_C18___eq__ T, bMk F_C18___eq__ (fun _ _ _ _ _ _ us hl => match us, hl with | [_, _], _ => rfl)⟩⟩
  have e_Latest : Me l.prog w K mg base ([C0, C1, C2, C3, C4, C5, C6, C7, C8, C9, C10, C11, C12, C13, C14, C15, C16, C17, C18, C19, C20, C21, C22, C23, C24, C25, C26].getD 19 0) "__eq__" 2 ["self", "other"] (spEqC K ([C0, C1, C2, C3, C4, C5, C6, C7, C8, C9, C10, C11, C12, C13, C14, C15, C16, C17, C18, C19, C20, C21, C22, C23, C24, C25, C26].getD 19 0) ["late", "at", "world"]) := ⟨⟨g_C19___eq__, _, a_C19___eq__, i_C19___eq__, ok_eq_Latest (P := l.prog) (w := w) (base := base) F_C19___eq__ T, bMk F_C19___eq__ (fun _ _ _ _ _ _ us hl => match us, hl with | [_, _], _ => rfl)⟩⟩
  have e_Taking : Me l.prog w K mg base ([C0, C1, C2, C3, C4, C5, C6, C7, C8, C9, C10, C11, C12, C13, C14, C15, C16, C17, C18, C19, C20, C21, C22, C23, C24, C25, C26].getD 20 0) "__eq__" 2 ["self", "other"] (spEqC K ([C0, C1, C2, C3, C4, C5, C6, C7, C8, C9, C10, C11, C12, C13, C14, C15, C16, C17, C18, C19, C20, C21, C22, C23, C24, C25, C26].getD 20 0) ["worker", "at", "begun", "ended"]) := ⟨⟨g_C20___eq__, _, a_C20___eq__, i_C20___eq__, ok_eq_Taking (P := l.prog) (w := w) (base := base) F_C20___eq__ T, bMk F_C20___eq__ (fun _ _ _ _ _ _ us hl => match us, hl with | [_, _], _ => rfl)⟩⟩
  have e_Fits : Me l.prog w K mg base ([C0, C1, C2, C3, C4, C5, C6, C7, C8, C9, C10, C11, C12, C13, C14, C15, C16, C17, C18, C19, C20, C21, C22, C23, C24, C25, C26].getD 21 0) "__eq__" 2 ["self", "other"] (spEqC K ([C0, C1, C2, C3, C4, C5, C6, C7, C8, C9, C10, C11, C12, C13, C14, C15, C16, C17, C18, C19, C20, C21, C22, C23, C24, C25, C26].getD 21 0) ["world"]) := ⟨⟨g_C21___eq__, _, a_C21___eq__, i_C21___eq__, ok_eq_Fits (P := l.prog) (w := w) (base := base) F_C21___eq__ T, bMk F_C21___eq__ (fun _ _ _ _ _ _ us hl => match us, hl with | [_, _], _ => rfl)⟩⟩
  have e_Misfit : Me l.prog w K mg base ([C0, C1, C2, C3, C4, C5, C6, C7, C8, C9, C10, C11, C12, C13, C14, C15, C16, C17, C18, C19, C20, C21, C22, C23, C24, C25, C26].getD 22 0) "__eq__" 2 ["self", "other"] (spEqC K ([C0, C1, C2, C3, C4, C5, C6, C7, C8, C9, C10, C11, C12, C13, C14, C15, C16, C17, C18, C19, C20, C21, C22, C23, C24, C25, C26].getD 22 0) ["at", "why"]) := ⟨⟨g_C22___eq__, _, a_C22___eq__, i_C22___eq__, ok_eq_Misfit (P := l.prog) (w := w) (base := base) F_C22___eq__ T, bMk F_C22___eq__ (fun _ _ _ _ _ _ us hl => match us, hl with | [_, _], _ => rfl)⟩⟩
  have e_Ring : Me l.prog w K mg base ([C0, C1, C2, C3, C4, C5, C6, C7, C8, C9, C10, C11, C12, C13, C14, C15, C16, C17, C18, C19, C20, C21, C22, C23, C24, C25, C26].getD 23 0) "__eq__" 2 ["self", "other"] (spEqC K ([C0, C1, C2, C3, C4, C5, C6, C7, C8, C9, C10, C11, C12, C13, C14, C15, C16, C17, C18, C19, C20, C21, C22, C23, C24, C25, C26].getD 23 0) ["workers"]) := ⟨⟨g_C23___eq__, _, a_C23___eq__, i_C23___eq__, ok_eq_Ring (P := l.prog) (w := w) (base := base) F_C23___eq__ T, bMk F_C23___eq__ (fun _ _ _ _ _ _ us hl => match us, hl with | [_, _], _ => rfl)⟩⟩
  have e_Came : Me l.prog w K mg base ([C0, C1, C2, C3, C4, C5, C6, C7, C8, C9, C10, C11, C12, C13, C14, C15, C16, C17, C18, C19, C20, C21, C22, C23, C24, C25, C26].getD 24 0) "__eq__" 2 ["self", "other"] (spEqC K ([C0, C1, C2, C3, C4, C5, C6, C7, C8, C9, C10, C11, C12, C13, C14, C15, C16, C17, C18, C19, C20, C21, C22, C23, C24, C25, C26].getD 24 0) ["least", "most"]) := ⟨⟨g_C24___eq__, _, a_C24___eq__, i_C24___eq__, ok_eq_Came (P := l.prog) (w := w) (base := base) F_C24___eq__ T, bMk F_C24___eq__ (fun _ _ _ _ _ _ us hl => match us, hl with | [_, _], _ => rfl)⟩⟩
  have e_BestOrder : Me l.prog w K mg base ([C0, C1, C2, C3, C4, C5, C6, C7, C8, C9, C10, C11, C12, C13, C14, C15, C16, C17, C18, C19, C20, C21, C22, C23, C24, C25, C26].getD 25 0) "__eq__" 2 ["self", "other"] (spEqC K ([C0, C1, C2, C3, C4, C5, C6, C7, C8, C9, C10, C11, C12, C13, C14, C15, C16, C17, C18, C19, C20, C21, C22, C23, C24, C25, C26].getD 25 0) ["names", "late", "last"]) := ⟨⟨g_C25___eq__, _, a_C25___eq__, i_C25___eq__, ok_eq_BestOrder (P := l.prog) (w := w) (base := base) F_C25___eq__ T, bMk F_C25___eq__ (fun _ _ _ _ _ _ us hl => match us, hl with | [_, _], _ => rfl)⟩⟩
  have e_PoolTaking : Me l.prog w K mg base ([C0, C1, C2, C3, C4, C5, C6, C7, C8, C9, C10, C11, C12, C13, C14, C15, C16, C17, C18, C19, C20, C21, C22, C23, C24, C25, C26].getD 26 0) "__eq__" 2 ["self", "other"] (spEqC K ([C0, C1, C2, C3, C4, C5, C6, C7, C8, C9, C10, C11, C12, C13, C14, C15, C16, C17, C18, C19, C20, C21, C22, C23, C24, C25, C26].getD 26 0) ["loop", "worker", "many", "begun", "ended"]) := ⟨⟨g_C26___eq__, _, a_C26___eq__, i_C26___eq__, ok_eq_PoolTaking (P := l.prog) (w := w) (base := base) F_C26___eq__ T c_own_row, bMk F_C26___eq__ (fun _ _ _ _ _ _ us hl => match us, hl with | [_, _], _ => rfl)⟩⟩
  have BE : ∀ j, j < 27 → Me l.prog w K mg base ([C0, C1, C2, C3, C4, C5, C6, C7, C8, C9, C10, C11, C12, C13, C14, C15, C16, C17, C18, C19, C20, C21, C22, C23, C24, C25, C26].getD j 0) "__eq__" 2 ["self", "other"] (spEqC K ([C0, C1, C2, C3, C4, C5, C6, C7, C8, C9, C10, C11, C12, C13, C14, C15, C16, C17, C18, C19, C20, C21, C22, C23, C24, C25, C26].getD j 0) (flds j)) := fun j hj => match j, hj with
    | 0, _ => e_Fewest
    | 1, _ => e_NoList
    | 2, _ => e_Greatest
    | 3, _ => e_Least
    | 4, _ => e_BatchBound
    | 5, _ => e_BatchEndless
    | 6, _ => e_NeverLess
    | 7, _ => e_Less
    | 8, _ => e_Steady
    | 9, _ => e_Jump
    | 10, _ => e_Same
    | 11, _ => e_Other
    | 12, _ => e_Surely
    | 13, _ => e_Counter
    | 14, _ => e_Undecided
    | 15, _ => e_Bound
    | 16, _ => e_Endless
    | 17, _ => e_Within
    | 18, _ => e_Beyond
    | 19, _ => e_Latest
    | 20, _ => e_Taking
    | 21, _ => e_Fits
    | 22, _ => e_Misfit
    | 23, _ => e_Ring
    | 24, _ => e_Came
    | 25, _ => e_BestOrder
    | 26, _ => e_PoolTaking
    | j + 27, h => absurd h (by omega)
  have Gb := ok_bool (P := l.prog) (w := w) (mg := mg) (base := base) F_CD___bool__
  have c__law_pen : Fn l.prog w K mg base CX0 1 "_law_pen" ["_law_script"] (spPen K) := fnMk F1 (ok_pen F1 T) (PySem.W.mg_of X G a1) (fun _ _ _ _ _ _ us hl => match us, hl with | [_], _ => rfl) (fun _ _ _ _ _ _ us hl => match us, hl with | [_], _ => rfl)
  have c__law_draw : Fn l.prog w K mg base CX0 1 "_law_draw" ["_law_pen_here", "_law_many"] spDraw := fnMk F2 (ok_draw F2 T) (PySem.W.mg_of X G a2) (fun _ _ _ _ _ _ us hl => match us, hl with | [_, _], _ => rfl) (fun _ _ _ _ _ _ us hl => match us, hl with | [_, _], _ => rfl)
  have c__law_pick : Fn l.prog w K mg base CX0 2 "_law_pick" ["_law_pen_here", "_law_some"] spPick := fnMk F3 (ok_pick F3 T c__law_draw) (PySem.W.mg_of X G a3) (fun _ _ _ _ _ _ us hl => match us, hl with | [_, _], _ => rfl) (fun _ _ _ _ _ _ us hl => match us, hl with | [_, _], _ => rfl)
  have c__law_value : Fn l.prog w K mg base CX0 3 "_law_value" ["_law_pen_here"] (spValue [(Pt, lamQ1)]) := fnMk F4 (ok_value F4 T c__law_pick) (PySem.W.mg_of X G a4) (fun _ _ _ _ _ _ us hl => match us, hl with | [_], _ => rfl) (fun _ _ _ _ _ _ us hl => match us, hl with | [_], _ => rfl)
  have c__law_made : Fn l.prog w K mg base CX0 4 "_law_made" ["_law_first", "_law_second", "_law_third"] (spMade l.prog w K mg base [C0, C1, C2, C3, C4, C5, C6, C7, C8, C9, C10, C11, C12, C13, C14, C15, C16, C17, C18, C19, C20, C21, C22, C23, C24, C25, C26] [(Pt, lamQ1)]) := fnMk (F5.fun k5) (ok_made F5 (tb _ List.mem_cons_self) List.mem_cons_self (fun p hp e => tt_uniq hPd hp List.mem_cons_self e) T m_Fewest_1 m_NoList_k m_Greatest_2 m_Least_3 m_Least_k m_Latest_3 m_Bound_k m_Endless_2 m_Within_k m_Beyond_2 m_NeverLess_k m_Steady_1 m_Same_2 m_Surely_k m_Less_k m_Jump_1 m_Other_1 m_Counter_2 m_Undecided_k m_BatchBound_3 m_BatchEndless_k m_BestOrder_3 m_Fits_k m_Misfit_2 m_Ring_k m_Came_2 m_Taking_4 m_Taking_k m_PoolTaking_5 m_PoolTaking_k) (PySem.W.mg_of X G a5) (fun _ _ _ _ _ _ us hl => match us, hl with | [_, _, _], _ => rfl) (fun _ _ _ _ _ _ us hl => match us, hl with | [_, _, _], _ => rfl)
  exact ok_law F6 T c__law_pen c__law_value c__law_made i_CD___bool__ Gb (bMk F_CD___bool__ (fun _ _ _ _ _ _ us hl => match us, hl with | [_], _ => rfl)) BE m_Fewest_1 m_NoList_1 m_Least_3 m_Bound_2 m_Beyond_2 m_Taking_4
end K03
end
section
namespace L3
open PySem PySem.W
def kmOb (a t : List Addr) (s : SharedT) : List (Option Obj) × List (Option Obj) := (a.map (HandSHeadRun.getT s), t.map (HandSHeadRun.getT s))
theorem kmOb_eq {K : Params → Frag} {a : List Addr} {e : ∀ P, a = (K P).map (·.1)} {t : List Addr} (s : SharedT) : kmOb a t s = (kmHook K a e t).obs s.abs := by
  have h : HandSHeadRun.getT s = s.abs.heap.get? := funext (HandSHeadRun.getT_eq s)
  unfold kmOb
  rw [h]; rfl
def looseN : List PySem.Str := (["Paper", "Denial", "Fewest", "NoList", "Greatest", "Least", "BatchBound", "BatchEndless", "NeverLess", "Less", "Steady", "Jump", "Same", "Other", "Surely", "Counter", "Undecided", "Bound", "Endless", "Within", "Beyond", "Latest", "Taking", "Fits", "Misfit", "Ring", "Came", "BestOrder", "PoolTaking", "_law_pen"] : List PySem.Str) ++ (["_law_draw", "_law_pick", "_law_value", "_law_made"] : List PySem.Str)
end L3
open PySem PySem.W PyProof.Rows
local macro_rules | `(tactic| o_head (kmHook $K $a $e $t)) => `(tactic| (refine HandSHeadRun.head_any (r := (OpenLaw.row PySem.Challenge.rw_latechunks_k03_papers_of_all_kinds)) (q := view (OpenLaw.row PySem.Challenge.rw_latechunks_k03_papers_of_all_kinds).prog [45]) (H := kmHook $K $a $e $t) (ob := L3.kmOb $a $t) (M := 20000) (loose := L3.looseN) (d := HandSHeadRun.topDef ((OpenLaw.row PySem.Challenge.rw_latechunks_k03_papers_of_all_kinds)).prog 45) (kwd := []) L3.kmOb_eq (by kernel_rfl) (fun s => by kernel_rfl) (fun w os => by kernel_rfl) (by kernel_rfl) (by kernel_rfl) (by kernel_rfl) (by rfl) (by first | assumption | decide +kernel) (by decide +kernel) ⟨rfl, rfl, rfl, rfl, rfl, by decide +kernel⟩ ?hw ?hc))
set_option maxRecDepth 100000 in
set_option maxHeartbeats 0 in
theorem PySem.Challenge.cw_latechunks_k03_papers_of_all_kinds_holds : PySem.Challenge.rw_latechunks_k03_papers_of_all_kinds.Holds := by
  w_on; o_law; k_head; (case hw => w_witness2)
  k_fill
  refine L3.walkG (l := PySem.Challenge.rw_latechunks_k03_papers_of_all_kinds) (n := 63) (k := 6) (x := "_law_script") (CX := fun _ => L2.CX0) rfl (by decide) (by kernel_rfl) ⟨rfl, by decide, by decide⟩ (fun w h Y => PySem.W.km_in_of Y) ?F (fun _ _ _ _ _ z => z)
  case F =>
    intro w mg fa h Y KX G hmg0
    have hmg : mg ("law" : PySem.Str) = some (.ref fa) := by
      have e : (HandSHeadRun.topDef ((OpenLaw.row PySem.Challenge.rw_latechunks_k03_papers_of_all_kinds)).prog 45).name = ("law" : PySem.Str) := by kernel_rfl
      rw [← e]
      exact hmg0
    refine' K03.all_mk (Pt := 786) KX G hmg ?a1 ?l1 ?c1 ?k1 ?a2 ?l2 ?c2 ?k2 ?a3 ?l3 ?c3 ?k3 ?a4 ?l4 ?c4 ?k4 ?a5 ?l5 ?c5 ?k5 ?a6 ?l6 ?c6 ?k6 ?a_CP ?a_CD ?a_CD___bool__ ?l_CD___bool__ ?c_CD___bool__ ?k_CD___bool__ ?i_CD___bool__ ?a_C0 ?a_C0___init__ ?l_C0___init__ ?c_C0___init__ ?k_C0___init__ ?i_C0___init__ ?a_C0___eq__ ?l_C0___eq__ ?c_C0___eq__ ?k_C0___eq__ ?i_C0___eq__ ?mk_C0 ?kc_C0 ?a_C1 ?a_C1___init__ ?l_C1___init__ ?c_C1___init__ ?k_C1___init__ ?i_C1___init__ ?a_C1___eq__ ?l_C1___eq__ ?c_C1___eq__ ?k_C1___eq__ ?i_C1___eq__ ?mk_C1 ?kc_C1 ?a_C2 ?a_C2___init__ ?l_C2___init__ ?c_C2___init__ ?k_C2___init__ ?i_C2___init__ ?a_C2___eq__ ?l_C2___eq__ ?c_C2___eq__ ?k_C2___eq__ ?i_C2___eq__ ?mk_C2 ?kc_C2 ?a_C3 ?a_C3___init__ ?l_C3___init__ ?c_C3___init__ ?k_C3___init__ ?i_C3___init__ ?a_C3___eq__ ?l_C3___eq__ ?c_C3___eq__ ?k_C3___eq__ ?i_C3___eq__ ?mk_C3 ?kc_C3 ?a_C4 ?a_C4___init__ ?l_C4___init__ ?c_C4___init__ ?k_C4___init__ ?i_C4___init__ ?a_C4___eq__ ?l_C4___eq__ ?c_C4___eq__ ?k_C4___eq__ ?i_C4___eq__ ?mk_C4 ?kc_C4 ?a_C5 ?a_C5___init__ ?l_C5___init__ ?c_C5___init__ ?k_C5___init__ ?i_C5___init__ ?a_C5___eq__ ?l_C5___eq__ ?c_C5___eq__ ?k_C5___eq__ ?i_C5___eq__ ?mk_C5 ?kc_C5 ?a_C6 ?a_C6___init__ ?l_C6___init__ ?c_C6___init__ ?k_C6___init__ ?i_C6___init__ ?a_C6___eq__ ?l_C6___eq__ ?c_C6___eq__ ?k_C6___eq__ ?i_C6___eq__ ?mk_C6 ?kc_C6 ?a_C7 ?a_C7___init__ ?l_C7___init__ ?c_C7___init__ ?k_C7___init__ ?i_C7___init__ ?a_C7___eq__ ?l_C7___eq__ ?c_C7___eq__ ?k_C7___eq__ ?i_C7___eq__ ?mk_C7 ?kc_C7 ?a_C8 ?a_C8___init__ ?l_C8___init__ ?c_C8___init__ ?k_C8___init__ ?i_C8___init__ ?a_C8___eq__ ?l_C8___eq__ ?c_C8___eq__ ?k_C8___eq__ ?i_C8___eq__ ?mk_C8 ?kc_C8 ?a_C9 ?a_C9___init__ ?l_C9___init__ ?c_C9___init__ ?k_C9___init__ ?i_C9___init__ ?a_C9___eq__ ?l_C9___eq__ ?c_C9___eq__ ?k_C9___eq__ ?i_C9___eq__ ?mk_C9 ?kc_C9 ?a_C10 ?a_C10___init__ ?l_C10___init__ ?c_C10___init__ ?k_C10___init__ ?i_C10___init__ ?a_C10___eq__ ?l_C10___eq__ ?c_C10___eq__ ?k_C10___eq__ ?i_C10___eq__ ?mk_C10 ?kc_C10 ?a_C11 ?a_C11___init__ ?l_C11___init__ ?c_C11___init__ ?k_C11___init__ ?i_C11___init__ ?a_C11___eq__ ?l_C11___eq__ ?c_C11___eq__ ?k_C11___eq__ ?i_C11___eq__ ?mk_C11 ?kc_C11 ?a_C12 ?a_C12___init__ ?l_C12___init__ ?c_C12___init__ ?k_C12___init__ ?i_C12___init__ ?a_C12___eq__ ?l_C12___eq__ ?c_C12___eq__ ?k_C12___eq__ ?i_C12___eq__ ?mk_C12 ?kc_C12 ?a_C13 ?a_C13___init__ ?l_C13___init__ ?c_C13___init__ ?k_C13___init__ ?i_C13___init__ ?a_C13___eq__ ?l_C13___eq__ ?c_C13___eq__ ?k_C13___eq__ ?i_C13___eq__ ?mk_C13 ?kc_C13 ?a_C14 ?a_C14___init__ ?l_C14___init__ ?c_C14___init__ ?k_C14___init__ ?i_C14___init__ ?a_C14___eq__ ?l_C14___eq__ ?c_C14___eq__ ?k_C14___eq__ ?i_C14___eq__ ?mk_C14 ?kc_C14 ?a_C15 ?a_C15___init__ ?l_C15___init__ ?c_C15___init__ ?k_C15___init__ ?i_C15___init__ ?a_C15___eq__ ?l_C15___eq__ ?c_C15___eq__ ?k_C15___eq__ ?i_C15___eq__ ?mk_C15 ?kc_C15 ?a_C16 ?a_C16___init__ ?l_C16___init__ ?c_C16___init__ ?k_C16___init__ ?i_C16___init__ ?a_C16___eq__ ?l_C16___eq__ ?c_C16___eq__ ?k_C16___eq__ ?i_C16___eq__ ?mk_C16 ?kc_C16 ?a_C17 ?a_C17___init__ ?l_C17___init__ ?c_C17___init__ ?k_C17___init__ ?i_C17___init__ ?a_C17___eq__ ?l_C17___eq__ ?c_C17___eq__ ?k_C17___eq__ ?i_C17___eq__ ?mk_C17 ?kc_C17 ?a_C18 ?a_C18___init__ ?l_C18___init__ ?c_C18___init__ ?k_C18___init__ ?i_C18___init__ ?a_C18___eq__ ?l_C18___eq__ ?c_C18___eq__ ?k_C18___eq__ ?i_C18___eq__ ?mk_C18 ?kc_C18 ?a_C19 ?a_C19___init__ ?l_C19___init__ ?c_C19___init__ ?k_C19___init__ ?i_C19___init__ ?a_C19___eq__ ?l_C19___eq__ ?c_C19___eq__ ?k_C19___eq__ ?i_C19___eq__ ?mk_C19 ?kc_C19 ?a_C20 ?a_C20___init__ ?l_C20___init__ ?c_C20___init__ ?k_C20___init__ ?i_C20___init__ ?a_C20___eq__ ?l_C20___eq__ ?c_C20___eq__ ?k_C20___eq__ ?i_C20___eq__ ?mk_C20 ?kc_C20 ?a_C21 ?a_C21___init__ ?l_C21___init__ ?c_C21___init__ ?k_C21___init__ ?i_C21___init__ ?a_C21___eq__ ?l_C21___eq__ ?c_C21___eq__ ?k_C21___eq__ ?i_C21___eq__ ?mk_C21 ?kc_C21 ?a_C22 ?a_C22___init__ ?l_C22___init__ ?c_C22___init__ ?k_C22___init__ ?i_C22___init__ ?a_C22___eq__ ?l_C22___eq__ ?c_C22___eq__ ?k_C22___eq__ ?i_C22___eq__ ?mk_C22 ?kc_C22 ?a_C23 ?a_C23___init__ ?l_C23___init__ ?c_C23___init__ ?k_C23___init__ ?i_C23___init__ ?a_C23___eq__ ?l_C23___eq__ ?c_C23___eq__ ?k_C23___eq__ ?i_C23___eq__ ?mk_C23 ?kc_C23 ?a_C24 ?a_C24___init__ ?l_C24___init__ ?c_C24___init__ ?k_C24___init__ ?i_C24___init__ ?a_C24___eq__ ?l_C24___eq__ ?c_C24___eq__ ?k_C24___eq__ ?i_C24___eq__ ?mk_C24 ?kc_C24 ?a_C25 ?a_C25___init__ ?l_C25___init__ ?c_C25___init__ ?k_C25___init__ ?i_C25___init__ ?a_C25___eq__ ?l_C25___eq__ ?c_C25___eq__ ?k_C25___eq__ ?i_C25___eq__ ?mk_C25 ?kc_C25 ?a_C26 ?a_C26___init__ ?l_C26___init__ ?c_C26___init__ ?k_C26___init__ ?i_C26___init__ ?a_C26___eq__ ?l_C26___eq__ ?c_C26___eq__ ?k_C26___eq__ ?i_C26___eq__ ?a_C26_own_row ?l_C26_own_row ?c_C26_own_row ?k_C26_own_row ?i_C26_own_row ?mk_C26 ?kc_C26 ?yb ?yc ?clA ?tyA ?cmA ?boA ?kitA ?kitPA ?kitDA ?kitLA ?fldA ?nfA ?z_isinstance ?z_int ?z_len ?z_abs ?z_list ?z_range ?z_repr ?z_bool ?hCPt ?nPPt ?tPPt ?hPd0
    (case a1 => k_is)
    (case l1 => k_is)
    (case c1 => k_is)
    (case k1 => k_is)
    (case a2 => k_is)
    (case l2 => k_is)
    (case c2 => k_is)
    (case k2 => k_is)
    (case a3 => k_is)
    (case l3 => k_is)
    (case c3 => k_is)
    (case k3 => k_is)
    (case a4 => k_is)
    (case l4 => k_is)
    (case c4 => k_is)
    (case k4 => k_is)
    (case a5 => k_is)
    (case l5 => k_is)
    (case c5 => k_is)
    (case k5 => k_is)
    (case a6 => k_is)
    (case l6 => k_is)
    (case c6 => k_is)
    (case k6 => k_is)
    (case a_CP => k_is)
    (case a_CD => k_is)
    (case a_CD___bool__ => k_is)
    (case l_CD___bool__ => k_is)
    (case c_CD___bool__ => k_is)
    (case k_CD___bool__ => k_is)
    (case i_CD___bool__ => k_is)
    (case a_C0 => k_is)
    (case a_C0___init__ => k_is)
    (case l_C0___init__ => k_is)
    (case c_C0___init__ => k_is)
    (case k_C0___init__ => k_is)
    (case i_C0___init__ => k_is)
    (case a_C0___eq__ => k_is)
    (case l_C0___eq__ => k_is)
    (case c_C0___eq__ => k_is)
    (case k_C0___eq__ => k_is)
    (case i_C0___eq__ => k_is)
    (case mk_C0 => k_is)
    (case kc_C0 => k_is)
    (case a_C1 => k_is)
    (case a_C1___init__ => k_is)
    (case l_C1___init__ => k_is)
    (case c_C1___init__ => k_is)
    (case k_C1___init__ => k_is)
    (case i_C1___init__ => k_is)
    (case a_C1___eq__ => k_is)
    (case l_C1___eq__ => k_is)
    (case c_C1___eq__ => k_is)
    (case k_C1___eq__ => k_is)
    (case i_C1___eq__ => k_is)
    (case mk_C1 => k_is)
    (case kc_C1 => k_is)
    (case a_C2 => k_is)
    (case a_C2___init__ => k_is)
    (case l_C2___init__ => k_is)
    (case c_C2___init__ => k_is)
    (case k_C2___init__ => k_is)
    (case i_C2___init__ => k_is)
    (case a_C2___eq__ => k_is)
    (case l_C2___eq__ => k_is)
    (case c_C2___eq__ => k_is)
    (case k_C2___eq__ => k_is)
    (case i_C2___eq__ => k_is)
    (case mk_C2 => k_is)
    (case kc_C2 => k_is)
    (case a_C3 => k_is)
    (case a_C3___init__ => k_is)
    (case l_C3___init__ => k_is)
    (case c_C3___init__ => k_is)
    (case k_C3___init__ => k_is)
    (case i_C3___init__ => k_is)
    (case a_C3___eq__ => k_is)
    (case l_C3___eq__ => k_is)
    (case c_C3___eq__ => k_is)
    (case k_C3___eq__ => k_is)
    (case i_C3___eq__ => k_is)
    (case mk_C3 => k_is)
    (case kc_C3 => k_is)
    (case a_C4 => k_is)
    (case a_C4___init__ => k_is)
    (case l_C4___init__ => k_is)
    (case c_C4___init__ => k_is)
    (case k_C4___init__ => k_is)
    (case i_C4___init__ => k_is)
    (case a_C4___eq__ => k_is)
    (case l_C4___eq__ => k_is)
    (case c_C4___eq__ => k_is)
    (case k_C4___eq__ => k_is)
    (case i_C4___eq__ => k_is)
    (case mk_C4 => k_is)
    (case kc_C4 => k_is)
    (case a_C5 => k_is)
    (case a_C5___init__ => k_is)
    (case l_C5___init__ => k_is)
    (case c_C5___init__ => k_is)
    (case k_C5___init__ => k_is)
    (case i_C5___init__ => k_is)
    (case a_C5___eq__ => k_is)
    (case l_C5___eq__ => k_is)
    (case c_C5___eq__ => k_is)
    (case k_C5___eq__ => k_is)
    (case i_C5___eq__ => k_is)
    (case mk_C5 => k_is)
    (case kc_C5 => k_is)
    (case a_C6 => k_is)
    (case a_C6___init__ => k_is)
    (case l_C6___init__ => k_is)
    (case c_C6___init__ => k_is)
    (case k_C6___init__ => k_is)
    (case i_C6___init__ => k_is)
    (case a_C6___eq__ => k_is)
    (case l_C6___eq__ => k_is)
    (case c_C6___eq__ => k_is)
    (case k_C6___eq__ => k_is)
    (case i_C6___eq__ => k_is)
    (case mk_C6 => k_is)
    (case kc_C6 => k_is)
    (case a_C7 => k_is)
    (case a_C7___init__ => k_is)
    (case l_C7___init__ => k_is)
    (case c_C7___init__ => k_is)
    (case k_C7___init__ => k_is)
    (case i_C7___init__ => k_is)
    (case a_C7___eq__ => k_is)
    (case l_C7___eq__ => k_is)
    (case c_C7___eq__ => k_is)
    (case k_C7___eq__ => k_is)
    (case i_C7___eq__ => k_is)
    (case mk_C7 => k_is)
    (case kc_C7 => k_is)
    (case a_C8 => k_is)
    (case a_C8___init__ => k_is)
    (case l_C8___init__ => k_is)
    (case c_C8___init__ => k_is)
    (case k_C8___init__ => k_is)
    (case i_C8___init__ => k_is)
    (case a_C8___eq__ => k_is)
    (case l_C8___eq__ => k_is)
    (case c_C8___eq__ => k_is)
    (case k_C8___eq__ => k_is)
    (case i_C8___eq__ => k_is)
    (case mk_C8 => k_is)
    (case kc_C8 => k_is)
    (case a_C9 => k_is)
    (case a_C9___init__ => k_is)
    (case l_C9___init__ => k_is)
    (case c_C9___init__ => k_is)
    (case k_C9___init__ => k_is)
    (case i_C9___init__ => k_is)
    (case a_C9___eq__ => k_is)
    (case l_C9___eq__ => k_is)
    (case c_C9___eq__ => k_is)
    (case k_C9___eq__ => k_is)
    (case i_C9___eq__ => k_is)
    (case mk_C9 => k_is)
    (case kc_C9 => k_is)
    (case a_C10 => k_is)
    (case a_C10___init__ => k_is)
    (case l_C10___init__ => k_is)
    (case c_C10___init__ => k_is)
    (case k_C10___init__ => k_is)
    (case i_C10___init__ => k_is)
    (case a_C10___eq__ => k_is)
    (case l_C10___eq__ => k_is)
    (case c_C10___eq__ => k_is)
    (case k_C10___eq__ => k_is)
    (case i_C10___eq__ => k_is)
    (case mk_C10 => k_is)
    (case kc_C10 => k_is)
    (case a_C11 => k_is)
    (case a_C11___init__ => k_is)
    (case l_C11___init__ => k_is)
    (case c_C11___init__ => k_is)
    (case k_C11___init__ => k_is)
    (case i_C11___init__ => k_is)
    (case a_C11___eq__ => k_is)
    (case l_C11___eq__ => k_is)
    (case c_C11___eq__ => k_is)
    (case k_C11___eq__ => k_is)
    (case i_C11___eq__ => k_is)
    (case mk_C11 => k_is)
    (case kc_C11 => k_is)
    (case a_C12 => k_is)
    (case a_C12___init__ => k_is)
    (case l_C12___init__ => k_is)
    (case c_C12___init__ => k_is)
    (case k_C12___init__ => k_is)
    (case i_C12___init__ => k_is)
    (case a_C12___eq__ => k_is)
    (case l_C12___eq__ => k_is)
    (case c_C12___eq__ => k_is)
    (case k_C12___eq__ => k_is)
    (case i_C12___eq__ => k_is)
    (case mk_C12 => k_is)
    (case kc_C12 => k_is)
    (case a_C13 => k_is)
    (case a_C13___init__ => k_is)
    (case l_C13___init__ => k_is)
    (case c_C13___init__ => k_is)
    (case k_C13___init__ => k_is)
    (case i_C13___init__ => k_is)
    (case a_C13___eq__ => k_is)
    (case l_C13___eq__ => k_is)
    (case c_C13___eq__ => k_is)
    (case k_C13___eq__ => k_is)
    (case i_C13___eq__ => k_is)
    (case mk_C13 => k_is)
    (case kc_C13 => k_is)
    (case a_C14 => k_is)
    (case a_C14___init__ => k_is)
    (case l_C14___init__ => k_is)
    (case c_C14___init__ => k_is)
    (case k_C14___init__ => k_is)
    (case i_C14___init__ => k_is)
    (case a_C14___eq__ => k_is)
    (case l_C14___eq__ => k_is)
    (case c_C14___eq__ => k_is)
    (case k_C14___eq__ => k_is)
    (case i_C14___eq__ => k_is)
    (case mk_C14 => k_is)
    (case kc_C14 => k_is)
    (case a_C15 => k_is)
    (case a_C15___init__ => k_is)
    (case l_C15___init__ => k_is)
    (case c_C15___init__ => k_is)
    (case k_C15___init__ => k_is)
    (case i_C15___init__ => k_is)
    (case a_C15___eq__ => k_is)
    (case l_C15___eq__ => k_is)
    (case c_C15___eq__ => k_is)
    (case k_C15___eq__ => k_is)
    (case i_C15___eq__ => k_is)
    (case mk_C15 => k_is)
    (case kc_C15 => k_is)
    (case a_C16 => k_is)
    (case a_C16___init__ => k_is)
    (case l_C16___init__ => k_is)
    (case c_C16___init__ => k_is)
    (case k_C16___init__ => k_is)
    (case i_C16___init__ => k_is)
    (case a_C16___eq__ => k_is)
    (case l_C16___eq__ => k_is)
    (case c_C16___eq__ => k_is)
    (case k_C16___eq__ => k_is)
    (case i_C16___eq__ => k_is)
    (case mk_C16 => k_is)
    (case kc_C16 => k_is)
    (case a_C17 => k_is)
    (case a_C17___init__ => k_is)
    (case l_C17___init__ => k_is)
    (case c_C17___init__ => k_is)
    (case k_C17___init__ => k_is)
    (case i_C17___init__ => k_is)
    (case a_C17___eq__ => k_is)
    (case l_C17___eq__ => k_is)
    (case c_C17___eq__ => k_is)
    (case k_C17___eq__ => k_is)
    (case i_C17___eq__ => k_is)
    (case mk_C17 => k_is)
    (case kc_C17 => k_is)
    (case a_C18 => k_is)
    (case a_C18___init__ => k_is)
    (case l_C18___init__ => k_is)
    (case c_C18___init__ => k_is)
    (case k_C18___init__ => k_is)
    (case i_C18___init__ => k_is)
    (case a_C18___eq__ => k_is)
    (case l_C18___eq__ => k_is)
    (case c_C18___eq__ => k_is)
    (case k_C18___eq__ => k_is)
    (case i_C18___eq__ => k_is)
    (case mk_C18 => k_is)
    (case kc_C18 => k_is)
    (case a_C19 => k_is)
    (case a_C19___init__ => k_is)
    (case l_C19___init__ => k_is)
    (case c_C19___init__ => k_is)
    (case k_C19___init__ => k_is)
    (case i_C19___init__ => k_is)
    (case a_C19___eq__ => k_is)
    (case l_C19___eq__ => k_is)
    (case c_C19___eq__ => k_is)
    (case k_C19___eq__ => k_is)
    (case i_C19___eq__ => k_is)
    (case mk_C19 => k_is)
    (case kc_C19 => k_is)
    (case a_C20 => k_is)
    (case a_C20___init__ => k_is)
    (case l_C20___init__ => k_is)
    (case c_C20___init__ => k_is)
    (case k_C20___init__ => k_is)
    (case i_C20___init__ => k_is)
    (case a_C20___eq__ => k_is)
    (case l_C20___eq__ => k_is)
    (case c_C20___eq__ => k_is)
    (case k_C20___eq__ => k_is)
    (case i_C20___eq__ => k_is)
    (case mk_C20 => k_is)
    (case kc_C20 => k_is)
    (case a_C21 => k_is)
    (case a_C21___init__ => k_is)
    (case l_C21___init__ => k_is)
    (case c_C21___init__ => k_is)
    (case k_C21___init__ => k_is)
    (case i_C21___init__ => k_is)
    (case a_C21___eq__ => k_is)
    (case l_C21___eq__ => k_is)
    (case c_C21___eq__ => k_is)
    (case k_C21___eq__ => k_is)
    (case i_C21___eq__ => k_is)
    (case mk_C21 => k_is)
    (case kc_C21 => k_is)
    (case a_C22 => k_is)
    (case a_C22___init__ => k_is)
    (case l_C22___init__ => k_is)
    (case c_C22___init__ => k_is)
    (case k_C22___init__ => k_is)
    (case i_C22___init__ => k_is)
    (case a_C22___eq__ => k_is)
    (case l_C22___eq__ => k_is)
    (case c_C22___eq__ => k_is)
    (case k_C22___eq__ => k_is)
    (case i_C22___eq__ => k_is)
    (case mk_C22 => k_is)
    (case kc_C22 => k_is)
    (case a_C23 => k_is)
    (case a_C23___init__ => k_is)
    (case l_C23___init__ => k_is)
    (case c_C23___init__ => k_is)
    (case k_C23___init__ => k_is)
    (case i_C23___init__ => k_is)
    (case a_C23___eq__ => k_is)
    (case l_C23___eq__ => k_is)
    (case c_C23___eq__ => k_is)
    (case k_C23___eq__ => k_is)
    (case i_C23___eq__ => k_is)
    (case mk_C23 => k_is)
    (case kc_C23 => k_is)
    (case a_C24 => k_is)
    (case a_C24___init__ => k_is)
    (case l_C24___init__ => k_is)
    (case c_C24___init__ => k_is)
    (case k_C24___init__ => k_is)
    (case i_C24___init__ => k_is)
    (case a_C24___eq__ => k_is)
    (case l_C24___eq__ => k_is)
    (case c_C24___eq__ => k_is)
    (case k_C24___eq__ => k_is)
    (case i_C24___eq__ => k_is)
    (case mk_C24 => k_is)
    (case kc_C24 => k_is)
    (case a_C25 => k_is)
    (case a_C25___init__ => k_is)
    (case l_C25___init__ => k_is)
    (case c_C25___init__ => k_is)
    (case k_C25___init__ => k_is)
    (case i_C25___init__ => k_is)
    (case a_C25___eq__ => k_is)
    (case l_C25___eq__ => k_is)
    (case c_C25___eq__ => k_is)
    (case k_C25___eq__ => k_is)
    (case i_C25___eq__ => k_is)
    (case mk_C25 => k_is)
    (case kc_C25 => k_is)
    (case a_C26 => k_is)
    (case a_C26___init__ => k_is)
    (case l_C26___init__ => k_is)
    (case c_C26___init__ => k_is)
    (case k_C26___init__ => k_is)
    (case i_C26___init__ => k_is)
    (case a_C26___eq__ => k_is)
    (case l_C26___eq__ => k_is)
    (case c_C26___eq__ => k_is)
    (case k_C26___eq__ => k_is)
    (case i_C26___eq__ => k_is)
    (case a_C26_own_row => k_is)
    (case l_C26_own_row => k_is)
    (case c_C26_own_row => k_is)
    (case k_C26_own_row => k_is)
    (case i_C26_own_row => k_is)
    (case mk_C26 => k_is)
    (case kc_C26 => k_is)
    (case yb => k_is)
    (case yc => k_is)
    (case clA => kernel_rfl)
    (case tyA => kernel_rfl)
    (case cmA => kernel_rfl)
    (case boA => kernel_rfl)
    (case kitA => kernel_rfl)
    (case kitPA => kernel_rfl)
    (case kitDA => kernel_rfl)
    (case kitLA => kernel_rfl)
    (case fldA => kernel_rfl)
    (case nfA => kernel_rfl)
    (case z_isinstance => k_is)
    (case z_int => k_is)
    (case z_len => k_is)
    (case z_abs => k_is)
    (case z_list => k_is)
    (case z_range => k_is)
    (case z_repr => k_is)
    (case z_bool => k_is)
    (case hCPt => kernel_rfl)
    (case nPPt => kernel_rfl)
    (case tPPt => first | exact PySem.W.km_tabs_of Y _ (by k_mem) | (trace_state; exact PySem.W.km_tabs_of Y _ (by k_mem)))
    (case hPd0 => decide)
end
