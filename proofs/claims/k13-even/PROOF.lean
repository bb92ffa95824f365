import PyProof.Rows.All
import Wide.All
import OpenK.AllK
import Wide.FinOn
import HandS.ForMost
import HandS.Wide
import HandS.IsInst
import HandS.Defaults
import HandS.Evl
import HandS.EndTab
import HandS.Lambda
import HandS.Style
import HandS.Steps
import HandS.Text
import PyProof.ReprRoads
import PyProof.ListStr
import PyProof.StrOps2
import HandS.Walk
import HandS.ExcInit
import HandS.Nested
import HandS.ExcValue
import KE.KExcSuper
import HandS.ExcIs
import HandS.ExcField
import KE.KOpsOwn
import PyProof.Rows.Range3
import PyProof.Conv_bool
import HandS.HotCalls
import PyProof.EqAt
import HandS.ClsMeth
import HandS.MakeKwOnly
import HandS.FStr
import KE.KCallOwn
import PyProof.Rows.StrOr
import PyProof.TypeEq
import HandS.DeepEq
import KE.KEqDict
import HandS.Star
import HandS.Zip
import HandS.Flow
import PySem.Challenge.RW_latechunks_k13_even_shared_and_tapered_l
import HandS.TupMul
import OpenK.KOps
import HandS.TupAny
import HandS.SortInts
import HandS.Head0
import HandS.Head1
import HandS.Head2
import KE.KNestM
set_option Elab.async false
set_option linter.all false
set_option maxRecDepth 100000
set_option maxHeartbeats 4000000
section
namespace L3
open PySem PySem.Spec PyProof.Rows L2
def PenO (a c : Addr) (n : Nat) : HO := .ext fun h => ∃ (spot rest : Int) (t u : Tok) (k : Nat),
  h.get? a = some { cls := .type "list", data := .seq #[.ref c, .int spot t, .int rest u] k } ∧ 0 ≤ spot ∧ spot ≤ n
theorem PenO_ok {P : Program} {w : World} {H : Hp} {h : Heap} {a c : Addr} {n : Nat} {spot rest : Int} {t u : Tok} {k : Nat}
    (e : h.get? a = some { cls := .type "list", data := .seq #[.ref c, .int spot t, .int rest u] k }) (h0 : 0 ≤ spot) (h1 : spot ≤ n) :
    ObjOk P w H h a (PenO a c n) :=
  ⟨⟨spot, rest, t, u, k, e, h0, h1⟩, ⟨_, e⟩, fun _ _ ⟨s, r, t, u, k, q, z⟩ f => ⟨s, r, t, u, k, f _ q, z⟩⟩
section
variable {X : Cx} {pins : List (Addr × Obj)} {σ : L2.St} {H : Hp} {s : Shared}
theorem Inv.penOpen {a c : Addr} {n : Nat} (I : Inv X pins σ H s) (h : H a = some (PenO a c n)) :
    ∃ spot rest : Int, 0 ≤ spot ∧ spot ≤ n ∧ Inv X pins σ (upd H a (.lst [.ref c, .int spot, .int rest])) s := by
  obtain ⟨⟨spot, rest, t, u, k, e, h0, h1⟩, _, _⟩ := (show ObjOk X.prog X.w H s.heap a (PenO a c n) from I.hok a _ h)
  refine ⟨spot, rest, h0, h1, ?_⟩
  have mu : Mut (H a) := by rw [h]; exact True.intro
  have := I.write (t' := s.toks) (h' := s.heap) (x := a) (e := a) (o := .lst [.ref c, .int spot, .int rest]) mu (.inl rfl) (fun _ _ _ q => q) ⟨_, e⟩
    ⟨(by rw [sizeLine_eq]; show 3 ≤ 16777216; decide), [.ref c, .int spot t, .int rest u], k, .cons rfl (.cons ⟨t, rfl⟩ (.cons ⟨u, rfl⟩ .nil)), e⟩
  exact this
theorem vals3 {x y z : V} {us : List Value} (r : Vals [x, y, z] us) : ∃ u v w, us = [u, v, w] ∧ RelV x u ∧ RelV y v ∧ RelV z w := by
  cases r with
  | cons r1 r =>
    cases r with
    | cons r2 r =>
      cases r with
      | cons r3 r =>
        cases r
        exact ⟨_, _, _, rfl, r1, r2, r3⟩
theorem Inv.penClose {a c : Addr} {n : Nat} {spot rest : Int} (I : Inv X pins σ H s) (h : H a = some (.lst [.ref c, .int spot, .int rest])) (h0 : 0 ≤ spot) (h1 : spot ≤ n) :
    Inv X pins σ (upd H a (PenO a c n)) s := by
  obtain ⟨_, its, k, r, e⟩ := (show ObjOk X.prog X.w H s.heap a (.lst _) from I.hok a _ h)
  obtain ⟨u, v, w, rfl, r1, ⟨t, r2⟩, ⟨t', r3⟩⟩ := vals3 r
  cases (show u = .ref c from r1)
  subst r2 r3
  have mu : Mut (H a) := by rw [h]; exact True.intro
  exact I.write (t' := s.toks) (h' := s.heap) (x := a) (e := a) (o := PenO a c n) mu (.inl rfl) (fun _ _ _ q => q) ⟨_, e⟩ (PenO_ok e h0 h1)
end
/-- inside: the list is known, behind: it is hidden again -/
def penBack (a c : Addr) (n : Nat) (P : Hp → Prop) (H : Hp) : Prop := ∃ spot rest : Int, H a = some (.lst [.ref c, .int spot, .int rest]) ∧ 0 ≤ spot ∧ spot ≤ n ∧ P (upd H a (PenO a c n))
def tPen (a c : Addr) (n m : Nat) (t : TS) : TS := fun D σ H => H a = some (PenO a c n) ∧ ∀ spot rest : Int, 0 ≤ spot → spot ≤ n →
  t { nx := fun σ' => penBack a c m (D.nx σ'), rt := fun v => penBack a c m (D.rt v), bk := fun σ' => penBack a c m (D.bk σ'), ct := fun σ' => penBack a c m (D.ct σ') } σ (upd H a (.lst [.ref c, .int spot, .int rest]))
theorem pss_pen {X : Cx} {sts : List Stmt} {t : TS} (a c : Addr) (n m : Nat) (h : PSs X sts t) : PSs X sts (tPen a c n m t) := by
  refine ⟨fun pins s σ H D I hw => ?_⟩
  obtain ⟨ha, hw⟩ := hw
  obtain ⟨spot, rest, h0, h1, I1⟩ := Inv.penOpen I ha
  refine thn (h.run pins s σ _ _ I1 (hw spot rest h0 h1)) fun f s' q => ?_
  cases f with
  | next =>
    obtain ⟨σ', H', I', sp, re, e, g0, g1, z⟩ := q
    exact ⟨σ', _, Inv.penClose I' e g0 g1, z⟩
  | brk =>
    obtain ⟨σ', H', I', sp, re, e, g0, g1, z⟩ := q
    exact ⟨σ', _, Inv.penClose I' e g0 g1, z⟩
  | cont =>
    obtain ⟨σ', H', I', sp, re, e, g0, g1, z⟩ := q
    exact ⟨σ', _, Inv.penClose I' e g0 g1, z⟩
  | ret u =>
    obtain ⟨v, σ', H', I', r, sp, re, e, g0, g1, z⟩ := q
    exact ⟨v, σ', _, Inv.penClose I' e g0 g1, r, z⟩
end L3
namespace L3
open PySem PySem.Spec PyProof.Rows L2
section
variable {σ : L2.St} {H : Hp} {D : Ends} {t u : TS} {te ta tb : TE} {Q : VK} {v x y : V} {K : PySem.W.Frag}
theorem iteB {b : Bool} {A B : Prop} (h1 : b = true → A) (h2 : b = false → B) : if b = true then A else B := by
  cases b with
  | true => exact iteT (h1 rfl)
  | false => exact iteF (h2 rfl)
theorem iteD {c : Prop} {_ : Decidable c} {A B : Prop} (h1 : c → A) (h2 : ¬ c → B) : if decide c = true then A else B := iteB (fun h => h1 (of_decide_eq_true h)) (fun h => h2 (of_decide_eq_false h))
theorem iteND {c : Prop} {_ : Decidable c} {A B : Prop} (h1 : ¬ c → A) (h2 : c → B) : if (!decide c) = true then A else B := iteB (fun h => h1 (by simpa using h)) (fun h => h2 (by simpa using h))
theorem s_seq (h : t { D with nx := u D } σ H) : tSeq t u D σ H := h
theorem s_next (h : D.nx σ H) : tNext D σ H := h
theorem s_asg {i : Nat} (h : te σ H fun x H1 => D.nx (σ.set i (some x)) H1) : tAsg te (gName i) D σ H := h
theorem s_asgS {to ti : TE} {t : TSet} (h : te σ H fun v H1 => to σ H1 fun o H2 => ti σ H2 fun i H3 => t o i v H3 fun H4 => D.nx σ H4) : tAsg te (gSub to ti t) D σ H := h
theorem s_drop (h : te σ H fun _ H1 => D.nx σ H1) : tDrop te D σ H := h
theorem s_ret (h : te σ H D.rt) : tRet te D σ H := h
theorem s_retN (h : D.rt .non H) : tRetN D σ H := h
theorem s_if {c : TT} (h : c σ H fun b H1 => if b = true then t D σ H1 else u D σ H1) : tIfS c t u D σ H := h
theorem s_var {i : Nat} (e : σ[i]? = some (some v)) (h : Q v H) : tVar i σ H Q := ⟨v, e, h⟩
theorem s_c (h : Q v H) : tC v σ H Q := h
theorem s_op {r : R2} (h : ta σ H fun x H1 => tb σ H1 fun y H2 => r x y H2 Q) : tOp r ta tb σ H Q := h
theorem s_un {r : V → Hp → VK → Prop} (h : ta σ H fun x H1 => r x H1 Q) : tUn r ta σ H Q := h
theorem s_cb {r : List V → Hp → VK → Prop} {tt : TA} (h : tt σ H fun vs H1 => r vs H1 Q) : tCB r tt σ H Q := h
theorem s_nil {Q : List V → Hp → Prop} (h : Q [] H) : tNil σ H Q := h
theorem s_cons {Q : List V → Hp → Prop} {tr : TA} (h : ta σ H fun x H1 => tr σ H1 fun xs H2 => Q (x :: xs) H2) : tCons ta tr σ H Q := h
theorem s_test {Q : Bool → Hp → Prop} (h : te σ H fun x H' => ∃ k, x = .bl k ∧ Q k H') : tTest te σ H Q := h
theorem s_tB {Q : Bool → Hp → Prop} (h : te σ H fun x H' => ∃ k, x = .bl k ∧ Q k H') : tB te σ H Q := h
theorem s_bl {R : Bool → Prop} {b : Bool} (h : R b) : ∃ k, V.bl b = .bl k ∧ R k := ⟨b, rfl, h⟩
theorem s_and {c d : TT} {Q : Bool → Hp → Prop} (h : c σ H fun b H1 => if b = true then d σ H1 Q else Q false H1) : tAnd c d σ H Q := h
theorem s_or {c d : TT} {Q : Bool → Hp → Prop} (h : c σ H fun b H1 => if b = true then Q true H1 else d σ H1 Q) : tOr c d σ H Q := h
theorem s_not {c : TT} {Q : Bool → Hp → Prop} (h : c σ H fun b H1 => Q (!b) H1) : tNot c σ H Q := h
theorem s_andV (h : ta σ H fun x H1 => ∃ c, x = .bl c ∧ if c = true then tb σ H1 Q else Q (.bl false) H1) : tAndV ta tb σ H Q := h
theorem s_orV (h : ta σ H fun x H1 => ∃ c, x = .bl c ∧ if c = true then Q (.bl true) H1 else tb σ H1 Q) : tOrV ta tb σ H Q := h
theorem s_notV (h : ta σ H fun x H1 => ∃ c, x = .bl c ∧ Q (.bl (!c)) H1) : tNotV ta σ H Q := h
theorem s_ifE {c : TT} (h : c σ H fun b H1 => if b = true then ta σ H1 Q else tb σ H1 Q) : tIf c ta tb σ H Q := h
theorem s_call {sp : Sp} {dvs : List V} {E : XK} {tt : TA} (h : tt σ H fun vs H1 => sp (vs ++ dvs) H1 Q E) : tCall sp dvs E tt σ H Q := h
theorem s_I0 {g : Int → Int → V} {i j : Int} (h : Q (g i j) H) : rI0 g (.int i) (.int j) H Q := ⟨i, j, rfl, rfl, h⟩
theorem s_I {C : Int → Int → Prop} {g : Int → Int → V} {i j : Int} (c : C i j) (h : Q (g i j) H) : rI C g (.int i) (.int j) H Q := ⟨i, j, rfl, rfl, c, h⟩
theorem s_U {g : Int → V} {i : Int} (h : Q (g i) H) : rU g (.int i) H Q := ⟨i, rfl, h⟩
theorem s_setL {p : Addr} {xs : List V} {i : Int} {j : Nat} {R : Hp → Prop} (hp : H p = some (.lst xs)) (e : ixN xs.length i = some j) (h : R (upd H p (.lst (xs.set j v)))) : rSetL (.ref p) (.int i) v H R := ⟨p, xs, i, j, rfl, rfl, hp, e, h⟩
theorem s_int {R : Int → Prop} {R' : Bool → Prop} {i : Int} (h : R i) : (∃ j, [V.int i] = [V.int j] ∧ R j) ∨ ∃ k, [V.int i] = [V.bl k] ∧ R' k := .inl ⟨i, rfl, h⟩
theorem s_intB {R : Int → Prop} {R' : Bool → Prop} {b : Bool} (h : R' b) : (∃ j, [V.bl b] = [V.int j] ∧ R j) ∨ ∃ k, [V.bl b] = [V.bl k] ∧ R' k := .inr ⟨b, rfl, h⟩
theorem s_abs {R : Int → Prop} {i : Int} (h : R i) : ∃ j, [V.int i] = [V.int j] ∧ R j := ⟨i, rfl, h⟩
theorem s_lenL {R : Nat → Prop} {p : Addr} {xs : List V} (hp : H p = some (.lst xs)) (h : R xs.length) : ∃ x n, [V.ref p] = [x] ∧ LenV K x H n ∧ R n := ⟨_, _, rfl, .inl ⟨xs, .inl (.inl hp), rfl⟩, h⟩
/-- all that is tracked stays -/
theorem ex_new {p : Addr} {o : HO} (h : H p = none) : ∀ b u, H b = some u → upd H p o b = some u := fun b u e => by
  rw [upd_ne (ne_of_none e h)]; exact e
def Ex (H H' : Hp) : Prop := ∀ b o, H b = some o → H' b = some o
theorem Ex.refl (H : Hp) : Ex H H := fun _ _ h => h
theorem Ex.trans {H H1 H2 : Hp} (a : Ex H H1) (b : Ex H1 H2) : Ex H H2 := fun x o h => b x o (a x o h)
theorem Ex.free {H H' : Hp} (e : Ex H H') {p : Addr} (h : H' p = none) : H p = none := by
  cases q : H p with
  | none => rfl
  | some o => rw [e _ _ q] at h; cases h
/-- what is wanted of a new thing (kept from being reduced) -/
def ap (Q : VK) (v : V) (H : Hp) : Prop := Q v H
theorem s_lst {tt : TA} (h : tt σ H fun xs H1 => xs.length ≤ sizeLine ∧ ∀ p, H1 p = none → ap Q (.ref p) (upd H1 p (.lst xs))) : tLst tt σ H Q := h
theorem s_tup {tt : TA} (h : tt σ H fun xs H1 => xs.length ≤ sizeLine ∧ ∀ p, H1 p = none → ap Q (.ref p) (upd H1 p (.tup xs))) : tTup tt σ H Q := h
theorem s_new {o : HO} {n : Nat} (hz : n ≤ sizeLine) (h : ∀ p H2, H p = none → Ex H H2 → H2 p = some o → Q (.ref p) H2) : n ≤ sizeLine ∧ ∀ p, H p = none → ap Q (.ref p) (upd H p o) :=
  ⟨hz, fun p hp => h p _ hp (ex_new hp) upd_same⟩
theorem s_cut {M : L2.St → Hp → Prop} (h : t { D with nx := M } σ H) (k : ∀ σ' H', M σ' H' → u D σ' H') : Evl.tCut t u D σ H := ⟨M, h, k⟩
theorem dpInts {H : Hp} : ∀ ns : List Int, DpAll K H (ns.map V.int) (ns.map PyData.int)
  | [] => .nil
  | _ :: r => .cons (.int _) (dpInts r)
theorem s_neD {d e : PyData} (hd : Dp K H x d) (he : Dp K H y e) (sd : SeqAt.shaped d = true) (se : SeqAt.shaped e = true) (h : Q (.bl (!PyData.eqv d e)) H) : rNeD K x y H Q := ⟨d, e, hd, he, sd, se, h⟩
theorem s_eqD {d e : PyData} (hd : Dp K H x d) (he : Dp K H y e) (sd : SeqAt.shaped d = true) (se : SeqAt.shaped e = true) (h : Q (.bl (PyData.eqv d e)) H) : rEqD K x y H Q := ⟨d, e, hd, he, sd, se, h⟩
end
end L3
namespace L3
open PySem PySem.Spec PyProof.Rows L2
def lim : Nat := 1000000
/-- the pen's cells: a list of numbers, hidden too -/
def ScO (c : Addr) (ns : List Int) : HO := .ext fun h => ∃ (its : List Value) (k : Nat), (ns.map V.int).length ≤ sizeLine ∧ Vals (ns.map V.int) its ∧ h.get? c = some { cls := .type "list", data := .seq its.toArray k }
section
variable {X : Cx} {pins : List (Addr × Obj)} {σ : L2.St} {H : Hp} {s : Shared}
theorem Inv.scOpen {c : Addr} {ns : List Int} (I : Inv X pins σ H s) (h : H c = some (ScO c ns)) : Inv X pins σ (upd H c (.lst (ns.map V.int))) s := by
  obtain ⟨⟨its, k, hz, r, e⟩, _, _⟩ := (show ObjOk X.prog X.w H s.heap c (ScO c ns) from I.hok c _ h)
  have mu : Mut (H c) := by rw [h]; exact True.intro
  exact I.write (t' := s.toks) (h' := s.heap) (x := c) (e := c) (o := .lst (ns.map V.int)) mu (.inl rfl) (fun _ _ _ q => q) ⟨_, e⟩ ⟨hz, its, k, r, e⟩
theorem Inv.scClose {c : Addr} {ns : List Int} (I : Inv X pins σ H s) (h : H c = some (.lst (ns.map V.int))) : Inv X pins σ (upd H c (ScO c ns)) s := by
  obtain ⟨hz, its, k, r, e⟩ := (show ObjOk X.prog X.w H s.heap c (.lst _) from I.hok c _ h)
  have mu : Mut (H c) := by rw [h]; exact True.intro
  exact I.write (t' := s.toks) (h' := s.heap) (x := c) (e := c) (o := ScO c ns) mu (.inl rfl) (fun _ _ _ q => q) ⟨_, e⟩
    ⟨⟨its, k, hz, r, e⟩, ⟨_, e⟩, fun _ _ ⟨i, k, z, r, q⟩ f => ⟨i, k, z, r, f _ q⟩⟩
end
def scBack (c : Addr) (ns : List Int) (P : Hp → Prop) (H : Hp) : Prop := H c = some (.lst (ns.map V.int)) ∧ P (upd H c (ScO c ns))
def tSc (c : Addr) (ns : List Int) (t : TS) : TS := fun D σ H => H c = some (ScO c ns) ∧
  t { nx := fun σ' => scBack c ns (D.nx σ'), rt := fun v => scBack c ns (D.rt v), bk := fun σ' => scBack c ns (D.bk σ'), ct := fun σ' => scBack c ns (D.ct σ') } σ (upd H c (.lst (ns.map V.int)))
theorem pss_sc {X : Cx} {sts : List Stmt} {t : TS} (c : Addr) (ns : List Int) (h : PSs X sts t) : PSs X sts (tSc c ns t) := by
  refine ⟨fun pins s σ H D I hw => ?_⟩
  obtain ⟨ha, hw⟩ := hw
  refine thn (h.run pins s σ _ _ (Inv.scOpen I ha) hw) fun f s' q => ?_
  cases f with
  | next =>
    obtain ⟨σ', H', I', e, z⟩ := q
    exact ⟨σ', _, Inv.scClose I' e, z⟩
  | brk =>
    obtain ⟨σ', H', I', e, z⟩ := q
    exact ⟨σ', _, Inv.scClose I' e, z⟩
  | cont =>
    obtain ⟨σ', H', I', e, z⟩ := q
    exact ⟨σ', _, Inv.scClose I' e, z⟩
  | ret u =>
    obtain ⟨v, σ', H', I', r, e, z⟩ := q
    exact ⟨v, σ', _, Inv.scClose I' e, r, z⟩
def Pen (H : Hp) (a : Addr) (n : Nat) : Prop := ∃ c ns, H a = some (PenO a c n) ∧ H c = some (ScO c ns) ∧ ns.length ≤ 63 ∧ c ≠ a
def NoTbl : HO → Prop
  | .tbl _ => False
  | _ => True
/-- all but the pen at a and the tables of code objects stays -/
def Xt (a : Addr) (H H' : Hp) : Prop := ∀ b o, b ≠ a → NoTbl o → H b = some o → H' b = some o
abbrev rInt1 : List V → Hp → VK → Prop := fun xs H Q => (∃ i, xs = [V.int i] ∧ Q (V.int i) H) ∨ ∃ k, xs = [V.bl k] ∧ Q (V.int (if k then 1 else 0)) H
abbrev rLen1 (K : PySem.W.Frag) : List V → Hp → VK → Prop := fun xs H Q => ∃ x n, xs = [x] ∧ LenV K x H n ∧ Q (V.int ((n : Nat) : Int)) H
abbrev rAbs1 : List V → Hp → VK → Prop := fun xs H Q => ∃ i, xs = [V.int i] ∧ Q (V.int (if i < 0 then -i else i)) H
/-- == and != of flat things, or of data -/
def rEqU (K : PySem.W.Frag) : R2 := fun x y H Q => rEq x y H Q ∨ rEqD K x y H Q
def rNeU (K : PySem.W.Frag) : R2 := fun x y H Q => rNe x y H Q ∨ rNeD K x y H Q
theorem dec_eqI (i j : Int) : decide (V.int i = V.int j) = decide (i = j) := by
  by_cases h : i = j
  · subst h; simp
  · rw [decide_eq_false h, decide_eq_false (fun z => h (V.int.inj z))]
theorem dec_eqS (i j : Str) : decide (V.str i = V.str j) = decide (i = j) := by
  by_cases h : i = j
  · subst h; simp
  · rw [decide_eq_false h, decide_eq_false (fun z => h (V.str.inj z))]
section
variable {K : PySem.W.Frag} {H : Hp} {Q : VK} {x y : V}
theorem s_eqI {i j : Int} (h : Q (.bl (decide (i = j))) H) : rEqU K (.int i) (.int j) H Q := .inl ⟨rfl, by rw [dec_eqI]; exact h⟩
theorem s_neI {i j : Int} (h : Q (.bl (!decide (i = j))) H) : rNeU K (.int i) (.int j) H Q := .inl ⟨rfl, by rw [dec_eqI]; exact h⟩
theorem s_eqS {i j : Str} (h : Q (.bl (decide (i = j))) H) : rEqU K (.str i) (.str j) H Q := .inl ⟨rfl, by rw [dec_eqS]; exact h⟩
theorem s_neS {i j : Str} (h : Q (.bl (!decide (i = j))) H) : rNeU K (.str i) (.str j) H Q := .inl ⟨rfl, by rw [dec_eqS]; exact h⟩
theorem s_neD' {d e : PyData} (hd : Dp K H x d) (he : Dp K H y e) (sd : SeqAt.shaped d = true) (se : SeqAt.shaped e = true) (h : Q (.bl (!PyData.eqv d e)) H) : rNeU K x y H Q := .inr ⟨d, e, hd, he, sd, se, h⟩
end
end L3
end
section
namespace L3
open PySem PySem.Spec PyProof.Rows L2
structure FnG (P : Program) (w : World) (K : PySem.W.Frag) (mg : Str → Option Value) (base : Heap) (CX : CXT) (k : Nat) (f : Addr) (fd : FuncData) (ps : List Str) (sp : Sp) : Prop where
  len : ∀ vs H Q E, sp vs H Q E → vs.length = ps.length
  run : ∀ (A : Around) (fr : List Env) (s : Shared) (H : Hp) (as : Args) (us : List Value) (vs : List V) (Q : VK) (E : XK), Room k A → A.guards = some [] → Env0 P w K mg base A fr s H →
    BindsTo s fd as (ps.zip us) → Vals vs us → sp vs H Q E → codeAny (model P w) A (.call (.ref f) as) (CR CX fr P w H s Q E) s
theorem FnG.of {P : Program} {w : World} {K : PySem.W.Frag} {mg : Str → Option Value} {base : Heap} {CX : CXT} {k : Nat} {f : Addr} {fd : FuncData} {ps : List Str} {sp : Sp} (F : FnOk P w K mg base CX k f fd ps sp) : FnG P w K mg base CX k f fd ps sp :=
  ⟨F.len, fun A fr s H as us vs Q E r _ => F.run A fr s H as us vs Q E r⟩
/-- THE RULE for such a def -/
theorem funG {P : Program} {w : World} {K : PySem.W.Frag} {mg : Str → Option Value} {base : Heap} {CX : CXT} {x qual : Str} {st : Stmt} {f : Addr} {fd : FuncData} {N ps : List Str} {k : Nat} {sp : Sp}
    (F : Fun K x qual st f fd) (S : FnScope N ps (defScope st)) (len : ∀ vs H Q E, sp vs H Q E → vs.length = ps.length)
    (body : ∀ (cd : Value) (A : Around) (fr : List Env) (s : Shared) (H : Hp) (vs : List V) (Q : VK) (E : XK), Room k (A.deeper (envOfC qual (defScope st) s.heap.objs.size f cd)) → A.guards = some [] → sp vs H Q E →
      ∃ t, PSs (cxOf CX P w K mg base N qual (defScope st) f cd A fr s H E) (defBody st) t ∧ t { nx := fun _ H' => Q .non H', rt := Q } (L2.start N vs) H) :
    FnG P w K mg base CX (k + 1) f fd ps sp := by
  obtain ⟨oc, od, kV, doc, pm, an, cd, ct, sl, rfl, lk, hcd⟩ := F.ex
  exact ⟨len, fun A fr s H as us vs Q E hr hg e0 hb r h => LamX.run_ofS lk hcd S hr e0 hb r (len _ _ _ _ h) fun hr' => body cd A fr s H vs Q E hr' hg h⟩
/-- a def whose code object is known (it makes lambdas) -/
structure FunC (K : PySem.W.Frag) (x qual : Str) (st : Stmt) (c f : Addr) (fd : FuncData) : Prop where
  ex : ∃ (oc : Value) (od : Option Addr) (kV doc pm : Value) (an : Option Addr) (ct : Value) (osl : Array (Option Value)),
    fd = PySem.W.fnOf x qual (defArgs st) (defBody st) (defScope st) .none kV doc pm an (.ref c) ct ∧ K.lookup f = some ⟨oc, od, .func fd, osl⟩ ∧ PySem.W.codeIn K (.ref c) qual = true
theorem FunC.fun {K : PySem.W.Frag} {x qual : Str} {st : Stmt} {c f : Addr} {fd : FuncData} (F : FunC K x qual st c f fd) (k : PySem.W.keepIn K (.ref f) = true) : Fun K x qual st f fd := by
  obtain ⟨oc, od, kV, doc, pm, an, ct, sl, e, l, h⟩ := F.ex
  exact ⟨⟨oc, od, kV, doc, pm, an, .ref c, ct, sl, e, l, h⟩, k⟩
theorem funGC {P : Program} {w : World} {K : PySem.W.Frag} {mg : Str → Option Value} {base : Heap} {CX : CXT} {x qual : Str} {st : Stmt} {c f : Addr} {fd : FuncData} {N ps : List Str} {k : Nat} {sp : Sp}
    (F : FunC K x qual st c f fd) (S : FnScope N ps (defScope st)) (len : ∀ vs H Q E, sp vs H Q E → vs.length = ps.length)
    (body : ∀ (A : Around) (fr : List Env) (s : Shared) (H : Hp) (vs : List V) (Q : VK) (E : XK), Room k (A.deeper (envOfC qual (defScope st) s.heap.objs.size f (.ref c))) → A.guards = some [] → sp vs H Q E →
      ∃ t, PSs (cxOf CX P w K mg base N qual (defScope st) f (.ref c) A fr s H E) (defBody st) t ∧ t { nx := fun _ H' => Q .non H', rt := Q } (L2.start N vs) H) :
    FnG P w K mg base CX (k + 1) f fd ps sp := by
  obtain ⟨oc, od, kV, doc, pm, an, ct, sl, rfl, lk, hcd⟩ := F.ex
  exact ⟨len, fun A fr s H as us vs Q E hr hg e0 hb r h => LamX.run_ofS lk hcd S hr e0 hb r (len _ _ _ _ h) fun hr' => body A fr s H vs Q E hr' hg h⟩
section
variable {X : Cx} {CX : CXT} {k : Nat} {f : Addr} {fd : FuncData} {ps : List Str} {sp : Sp} {E : XK} {x : Str} {p pos : Pos} {e : Expr} {es : List Expr} {t : TA}
theorem runG {pins : List (Addr × Obj)} {σ : L2.St} {H : Hp} {s : Shared} {Q : VK} {us : List Value} {vs : List V} (F : FnG X.prog X.w X.K X.mg X.base CX k f fd ps sp) (hr : Room k X.A) (hg : X.A.guards = some [])
    (hb : Binds X.K fd ps []) (hx : Passes CX X E) (I : Inv X pins σ H s) (r : Vals vs us) (h : sp vs H Q E) : wpAny (model X.prog X.w) X.A (call (.ref f) us) (EP X pins σ Q) X.xe s := by
  have hl : (us ++ []).length = ps.length := by rw [List.append_nil, ← r.length]; exact F.len _ _ _ _ h
  have b := hb s us I.kIn hl
  rw [List.append_nil] at b
  refine wpAny_call (codeAny_mono (F.run X.A X.stack s H ⟨us, []⟩ us vs Q E hr hg I.env0 b r h) fun q s' z => ?_)
  match q, z with
  | .error e, z => exact hx pins σ H s e s' I z
  | .ok (.ret u), z => exact I.after z
/-- a def of the module, called by its name, as one bundle -/
structure Fn (P : Program) (w : World) (K : PySem.W.Frag) (mg : Str → Option Value) (base : Heap) (CX : CXT) (k : Nat) (x : Str) (ps : List Str) (sp : Sp) : Prop where
  ex : ∃ (f : Addr) (fd : FuncData), FnG P w K mg base CX k f fd ps sp ∧ mg x = some (.ref f) ∧ PySem.W.keepIn K (.ref f) = true ∧ Binds K fd ps [] ∧
    ∀ (s : Shared) (ws : List Value), K.In s.heap → ws.length = ps.length → BindsTo s fd ⟨[], ps.zip ws⟩ (ps.zip ws)
theorem pe_f {j : Nat} (c : Fn X.prog X.w X.K X.mg X.base CX k x ps sp) (hr : Room j X.A) (hg : X.A.guards = some []) (hx : Passes CX X E) (ha : PA X (e :: es) t) (hk : k ≤ j := by decide) (gl : Gl X x := by rfl)
    (hdb : (x == ("__debug__" : Str)) = false := by decide) (he : starEach (e :: es) X.env = (false, eval e X.env) :: starEach es X.env := by rfl) (hpl : (backTo pos (starEach es X.env)).any (·.1) = false := by rfl) :
    PE X (.Call (.Name x p) (e :: es) [] pos) (tCall sp [] E t) := by
  obtain ⟨f, fd, F, m, kp, b, _⟩ := c.ex
  constructor
  intro pins s σ H Q I h
  refine wpAny_Call_Name_kw (ld_glob I gl m ?_ hdb)
  refine PySem.W.callWith_K (h₀ := X.base) I.ok.mod.kin kp (thn (ha.run pos pins s σ H _ I h) fun us s1 q => ?_) he hpl
  obtain ⟨vs, H1, I1, r, q⟩ := q
  rw [List.append_nil] at q
  exact ⟨I1.kIn, runG F (hr.mono hk) hg b hx I1 r q⟩
end
end L3
namespace L3
open PySem PySem.Spec PyProof.Rows L2 LamX
/-- what is tracked at the law's entry: the script, locked, where it is no object of the module's own; the tables -/
def H0 (K : PySem.W.Frag) (a : Addr) (o : Obj) (xs : List V) (ts : List Addr) : Hp := fun b =>
  if b ∈ ts then some (.tbl #[]) else if b = a ∧ (K.lookup a).isNone = true then some (.frz o (.lst xs)) else none
theorem lawG {P : Program} {w : World} {K : PySem.W.Frag} {mg mb : Str → Option Value} {CX : CXT} {k : Nat} {fa a : Addr} {cs : List (Addr × Addr)} {fd : FuncData} {x : Str} {sp : Sp} {s : Shared} {vs : List Value} {ns : List Int}
    (kin : K.In s.heap) (glo : s.heap.Ns mainGlobals mg) (blt : s.heap.Ns builtinsNs mb) (bls : ∀ y : Str, y ≠ "__name__" → mb y = bootBuiltins y) (lims : s.heap.NoLimit) (gen : s.gens = #[])
    (tabs : ∀ p ∈ cs, s.heap.get? p.2 = some { cls := .none, data := .fields #[] }) (tabK : ∀ p ∈ cs, K.lookup p.2 = none) (codes : ∀ p ∈ cs, PySem.W.CodeHd s.heap p.1 p.2)
    (bmod : ∃ (bm : Addr) (ob : Obj), mg "__builtins__" = some (.ref bm) ∧ bm ≠ builtinsNs ∧ s.heap.get? bm = some ob ∧ ob.cls = .type "module" ∧ ob.dict = some builtinsNs ∧ ob.data = .plain)
    (scr : s.heap.get? a = some { cls := .type "list", data := .seq vs.toArray }) (hInts : IntsAre vs ns) (few : ns.length ≤ sizeLine) (room : Room k callerA)
    (F : ∀ base : Heap, K.In base → base.Ns mainGlobals mg → (∀ p ∈ cs, TabB base mg p.1 p.2) → FnG P w K mg base CX k fa fd [x] sp)
    (bind : ∀ (s : Shared) (u : Value), BindsTo s fd ⟨[u], []⟩ [(x, u)])
    (says : ∀ H : Hp, (∀ p ∈ cs, H p.2 = some (.tbl #[])) → SqL K H a (ns.map V.int) → sp [.ref a] H (fun v _ => v = .bl true) fun _ _ _ => False)
    (none' : ∀ H e s', CX [] H s (fun _ _ _ => False) e s' → False) :
    codeAny (model P w) callerA (.call (.ref fa) ⟨[.ref a], []⟩) (fun r s' => r = .ok (.ret (.bool true)) ∧ OldK s.heap s'.heap ∧ s'.os = s.os ∧ AllBare s'.gens) s := by
  have rv := vals_ints hInts
  have lv := hInts.length
  generalize hts : cs.map (·.2) = ts
  have mem : ∀ p ∈ cs, p.2 ∈ ts := fun p hp => by rw [← hts]; exact List.mem_map.mpr ⟨p, hp, rfl⟩
  have isT : ∀ b ∈ ts, s.heap.get? b = some { cls := .none, data := .fields #[] } ∧ K.lookup b = none := fun b hb => by
    rw [← hts] at hb
    obtain ⟨p, hp, rfl⟩ := List.mem_map.mp hb
    exact ⟨tabs p hp, tabK p hp⟩
  have aT : a ∉ ts := fun z => by
    have q := (isT a z).1
    rw [scr] at q
    exact nomatch congrArg Obj.data (Option.some.inj q)
  generalize hH : H0 K a { cls := .type "list", data := .seq vs.toArray } (ns.map V.int) ts = H
  have atT : ∀ b ∈ ts, H b = some (.tbl #[]) := fun b hb => by rw [← hH]; exact if_pos hb
  have cases_ : ∀ b, H b = none ∨ b ∈ ts ∨ (b = a ∧ K.lookup a = none ∧ H b = some (.frz { cls := .type "list", data := .seq vs.toArray } (.lst (ns.map V.int)))) := fun b => by
    by_cases h1 : b ∈ ts
    · exact .inr (.inl h1)
    · by_cases h2 : b = a ∧ (K.lookup a).isNone = true
      · refine .inr (.inr ⟨h2.1, by simpa using h2.2, ?_⟩)
        rw [← hH]; unfold H0; rw [if_neg h1, if_pos h2]
      · left; rw [← hH]; unfold H0; rw [if_neg h1, if_neg h2]
  have hok : HOk P w H s.heap := fun b o e => by
    rcases cases_ b with q | q | ⟨rfl, _, q⟩
    · rw [q] at e; cases e
    · rw [atT b q] at e; cases e; exact (isT b q).1
    · rw [q] at e; cases e
      exact ⟨scr, by rw [List.length_map]; exact few, vs, _, rv, scr⟩
  have sq : SqL K H a (ns.map V.int) := by
    cases hk : K.lookup a with
    | none => exact .inl (.inr ⟨_, by rw [← hH]; unfold H0; rw [if_neg aT, if_pos ⟨rfl, by rw [hk]; rfl⟩]⟩)
    | some o =>
      have z := kin a o hk
      rw [scr] at z
      cases z
      exact .inr ⟨_, vs.toArray, _, hk, rfl, rfl, rfl, by rw [List.size_toArray, lv]; exact few, by simpa using rv⟩
  -- what isn't tracked lies in the ground
  have gr : ∀ {b : Addr} {o : Obj}, s.heap.get? b = some o → H b = none → (hidT s.heap H).get? b = some o := fun e n => hidT_get e n
  have free : ∀ {b : Addr} {o : Obj}, s.heap.get? b = some o → (∀ us n, o.data ≠ .seq us n) → o.data ≠ .fields #[] → H b = none := fun {b o} e h1 h2 => by
    rcases cases_ b with q | q | ⟨rfl, _, _⟩
    · exact q
    · rw [(isT b q).1] at e; cases e; exact (h2 rfl).elim
    · rw [scr] at e; cases e; exact (h1 _ _ rfl).elim
  have ns' : ∀ {b : Addr} {m : Str → Option Value}, s.heap.Ns b m → (hidT s.heap H).Ns b m := fun {b m} h => by
    obtain ⟨o, es, ep, e, d, r⟩ := h
    exact ⟨o, es, ep, gr e (free e (fun _ _ z => by rw [d] at z; cases z) fun z => by rw [d] at z; cases z), d, r⟩
  have kin' : K.In (hidT s.heap H) := fun b o e => gr (kin b o e) (by
    rcases cases_ b with q | q | ⟨rfl, q, _⟩
    · exact q
    · rw [(isT b q).2] at e; cases e
    · rw [q] at e; cases e)
  have lim' : (hidT s.heap H).NoLimit := by
    obtain ⟨mc, h1, h2⟩ := lims
    exact ⟨mc, ns' h1, h2⟩
  have tb : ∀ p ∈ cs, TabB (hidT s.heap H) mg p.1 p.2 := fun p hp => by
    refine ⟨?_, ?_, fun z => ?_⟩
    · obtain ⟨o, us, file, tf, flags, tg, inF, text, tt, e1, r1, r2, r3, r⟩ := codes p hp
      refine ⟨o, us, file, tf, flags, tg, inF, text, tt, gr e1 (free e1 (fun _ _ z => by rw [r2] at z; cases z) fun z => ?_), r1, r2, r3, r⟩
      rw [r2] at z
      cases z
      simp at r3
    · obtain ⟨bm, ob, b1, b2, b3, b4, b5, b6⟩ := bmod
      refine ⟨bm, ob, b1, b2, fun z => ?_, fun z => ?_, gr b3 (free b3 (fun _ _ z => by rw [b6] at z; cases z) fun z => by rw [b6] at z; cases z), b4, b5, b6⟩
      · obtain ⟨o, es, ep, e, hd, _⟩ := glo
        rw [z, e] at b3; cases b3; rw [hd] at b6; cases b6
      · rw [z, tabs p hp] at b3; cases b3; cases b6
    · obtain ⟨o, es, ep, e, hd, _⟩ := glo
      rw [z, tabs p hp] at e; cases e; cases hd
  have e0 : Env0 P w K mg (hidT s.heap H) callerA [] s H :=
    ⟨rfl, ⟨kin', ns' glo, ⟨mb, ns' blt, bls⟩, lim'⟩, fun b o e => of_hidT e, Nat.le_of_eq (hidT_size _ _), trivial, fun b hb => absurd (show b ∈ ([] : List Addr) from hb) (by simp), hok, .of_eq gen⟩
  refine codeAny_mono ((F _ kin' (ns' glo) tb).run callerA [] s H ⟨[.ref a], []⟩ [.ref a] [.ref a] _ _ room rfl e0 (bind s (.ref a)) (.cons rfl .nil) (says H (fun p hp => atT _ (mem p hp)) sq)) fun r s' h => ?_
  match r, h with
  | .error e, h => exact (none' H e s' h).elim
  | .ok (.ret u), h =>
    obtain ⟨v, H', os, bare, un, hok', r', q⟩ := h
    have q' : v = .bl true := q
    subst q'
    obtain rfl : u = Value.bool true := r'
    have nofr : ∀ b : Addr, b ∉ frs [] := fun b z => absurd (show b ∈ ([] : List Addr) from z) (by simp)
    have kept : ∀ b o, b ∉ ts → s.heap.get? b = some o → s'.heap.get? b = some o := fun b o nb e => by
      rcases cases_ b with q | q | ⟨_, _, q⟩
      · exact un.keep b o e q (nofr b) (by simp)
      · exact absurd q nb
      · have e1 := (hok b _ q).1
        have e2 := (hok' b _ (un.frzs b _ _ q)).1
        rw [e] at e1; cases e1; exact e2
    have tgrow : ∀ p ∈ cs, ∃ more : Array Value, s'.heap.get? p.2 = some { cls := .none, data := .fields more } := fun p hp => by
      obtain ⟨more, z⟩ := un.tbls p.2 #[] (atT _ (mem p hp))
      exact ⟨_, hok' p.2 _ z⟩
    have back : ∀ b ∈ ts, ∃ p ∈ cs, p.2 = b := fun b hb => by
      rw [← hts] at hb
      obtain ⟨p, hp, e⟩ := List.mem_map.mp hb
      exact ⟨p, hp, e⟩
    refine ⟨rfl, ⟨fun b o e => ?_, fun b o e => ?_⟩, os, bare⟩
    · by_cases hb : b ∈ ts
      · obtain ⟨p, hp, rfl⟩ := back b hb
        obtain ⟨more, hm⟩ := tgrow p hp
        rw [tabs p hp] at e
        cases e
        refine .inr (.inl ⟨((codes p hp).tab (tabs p hp)).isCodeTable, rfl, #[], more, rfl, ?_⟩)
        rw [Array.empty_append]
        exact hm
      · exact .inl (kept b o hb e)
    · by_cases hb : b ∈ ts
      · obtain ⟨p, hp, rfl⟩ := back b hb
        obtain ⟨more, hm⟩ := tgrow p hp
        exact ⟨_, hm⟩
      · exact ⟨o, kept b o hb e⟩
/-- what a law's own text must bring -/
structure LawG (l : PySem.W.OpenLaw) (w : World) (K : PySem.W.Frag) (CX : CXT) (k n : Nat) (x : Str) (mg : Str → Option Value) (fa : Addr) (h : Heap) : Prop where
  ex : ∃ (fd : FuncData) (cs : List (Addr × Addr)) (sp : Sp), (∀ p ∈ cs, h.get? p.2 = some { cls := .none, data := .fields #[] }) ∧ (∀ p ∈ cs, K.lookup p.2 = none) ∧ (∀ p ∈ cs, PySem.W.CodeHd h p.1 p.2) ∧
    (∀ (s : Shared) (u : Value), BindsTo s fd ⟨[u], []⟩ [(x, u)]) ∧
    (∀ (H : Hp) (a : Addr) (ns : List Int), ns.length ≤ n → (∀ p ∈ cs, H p.2 = some (.tbl #[])) → SqL K H a (ns.map V.int) → sp [.ref a] H (fun v _ => v = .bl true) fun _ _ _ => False) ∧
    ∀ base : Heap, K.In base → base.Ns mainGlobals mg → (∀ p ∈ cs, TabB base mg p.1 p.2) → FnG l.prog w K mg base CX k fa fd [x] sp
theorem walkG {l : PySem.W.OpenLaw} {n k : Nat} {q : Program} {loose : List Str} {XP : (Str → Option Value) → Heap → Prop} {YP : World → Heap → Prop} {d : DefRec} {K : Params → PySem.W.Frag} {CX : World → CXT} {x : Str}
    (hn : l.most = some n) (hn2 : n ≤ sizeLine) (hdf : d.params.defaults = []) (hr : Room k callerA) (hY : ∀ (w : World) (h : Heap), YP w h → (K w.params).In h)
    (F : ∀ (w : World) (mg : Str → Option Value) (fa : Addr) (h : Heap), YP w h → (K w.params).In h → h.Ns mainGlobals mg → mg d.name = some (.ref fa) → LawG l w (K w.params) (CX w) k n x mg fa h)
    (hCX : ∀ (w : World) (H : Hp) (s : Shared) (e : Value) (s' : Shared), CX w [] H s (fun _ _ _ => False) e s' → False) :
    PySem.W.WalkO q loose XP YP l.row.toRowW d [] (fun f vs => PySem.call f vs) := by
  refine Att.attach_callB hn hdf fun w s₀ s₁ mg mb fa o pm cd doc a vs ns G Y ho hd hcd hmg hobj hints hlen _ hg => ?_
  have kx := hY w _ Y
  obtain ⟨fd, cs, sp, t1, t2, t3, hb, hs, hF⟩ := (F w mg fa _ Y kx G.T.g hmg).ex
  exact lawG kx G.T.g G.T.b G.T.builtins G.T.nolimit hg t1 t2 t3 G.T.bmain hobj hints (Nat.le_trans hlen hn2) hr hF hb (fun H hH hS => hs H a ns hlen hH hS) fun H e s' => hCX w H s₁ e s'
end L3
end
section
namespace L3
open PySem PySem.Spec PyProof.Rows L2
section
variable {X : Cx}
mutual
theorem dp_noDict {K : PySem.W.Frag} {H : Hp} : ∀ (d : PyData) (v : V), Dp K H v d → d.hasDict = false
  | .none, _, _ => rfl
  | .bool _, _, _ => rfl
  | .int _, _, _ => rfl
  | .str _, _, _ => rfl
  | .list ds, _, h => by
    cases h with
    | lst _ a => exact dp_noDictAll ds _ a
  | .tuple ds, _, h => by
    cases h with
    | tup _ a => exact dp_noDictAll ds _ a
  | .dict _, _, h => nomatch h
theorem dp_noDictAll {K : PySem.W.Frag} {H : Hp} : ∀ (ds : List PyData) (vs : List V), DpAll K H vs ds → PyData.hasDictAll ds = false
  | [], _, _ => rfl
  | d :: ds, _, h => by
    cases h with
    | cons a b =>
      unfold PyData.hasDictAll
      rw [dp_noDict d _ a, dp_noDictAll ds _ b]
      rfl
end
def rRepr (K : PySem.W.Frag) : List V → Hp → VK → Prop := fun xs H Q => ∃ x d, xs = [x] ∧ Dp K H x d ∧ d.showable = true ∧ d.depth ≤ 60 ∧ d.shown.length ≤ sizeLine ∧ Q (.str d.shown) H
theorem call_reprD (hg : X.A.guards = some []) (hu : X.A.units + 64 < cLine) : CallR X (.builtin "repr") (rRepr X.K) := by
  intro pins s σ H xs us Q I r h
  obtain ⟨x, d, rfl, hd, hs, hdp, hz, q⟩ := h
  obtain ⟨u, rfl, rx⟩ := vals1 r
  have nd := dp_noDict d x hd
  obtain ⟨as, rd⟩ := Dp.reads I d x u hd rx
  have fin : ∀ tk t, EP X pins σ Q (.str d.shown t) { s with toks := tk } := fun tk t => ⟨.str d.shown, H, I.tok tk, ⟨t, rfl⟩, q⟩
  cases hd with
  | non =>
    cases (show u = Value.none from rx)
    exact P.repr_of_none (fin _ _)
  | bl b =>
    cases (show u = Value.bool b from rx)
    refine P.repr_of_bool ?_
    cases b
    · exact fin _ _
    · exact fin _ _
  | int i =>
    obtain ⟨t, e⟩ := (show ∃ t, u = Value.int i t from rx)
    subst e
    exact P.repr_of_int (of_decide_eq_true hs) (fin _ _)
  | str z =>
    obtain ⟨t, e⟩ := (show ∃ t, u = Value.str z t from rx)
    subst e
    exact P.repr_of_str (fin _ _) hz
  | lst a b =>
    cases (show u = Value.ref _ from rx)
    refine repr_of_reads' rd hs (PyData.noDict_hsm nd) hg (by omega) (fun _ _ e => e) (fun h' t tk k => ?_) hz
    exact ⟨.str _, H, I.kept k, ⟨t, rfl⟩, q⟩
  | tup a b =>
    cases (show u = Value.ref _ from rx)
    refine repr_of_reads' rd hs (PyData.noDict_hsm nd) hg (by omega) (fun _ _ e => e) (fun h' t tk k => ?_) hz
    exact ⟨.str _, H, I.kept k, ⟨t, rfl⟩, q⟩
def repS (z : Str) (n : Nat) : Str := ⟨(List.replicate n z.cps).foldl (· ++ ·) #[]⟩
def rMulS : R2 := fun x y H Q => ∃ z n, x = .str z ∧ y = .int n ∧ 2 ≤ n ∧ n ≤ 100000 ∧ z.length = 1 ∧ Q (.str (repS z n.toNat)) H
theorem repS_len (z : Str) (n : Nat) : (repS z n).length = n * z.length := by
  have h : ∀ (l : List (Array Nat)) (a : Array Nat), (l.foldl (· ++ ·) a).size = a.size + (l.map (·.size)).sum := by
    intro l
    induction l with
    | nil => intro a; simp
    | cons b r ih => intro a; rw [List.foldl_cons, ih, Array.size_append, List.map_cons, List.sum_cons]; omega
  show ((List.replicate n z.cps).foldl (· ++ ·) #[]).size = _
  rw [h, List.map_replicate, List.sum_replicate_nat]
  simp [Str.length]
theorem op_mulS : OpR X (binaryOp .Mult) rMulS := by
  intro pins s σ H x y v u Q I rx ry h
  obtain ⟨z, n, rfl, rfl, h1, h2, h3, q⟩ := h
  obtain ⟨t, rfl⟩ := rx
  obtain ⟨t', rfl⟩ := ry
  have c1 : ¬ n < 1 := by omega
  have c2 : (n == 1 || z.length == 0) = false := by
    rw [h3, show (n == 1) = false from beq_eq_false_iff_ne.mpr (by omega)]
    rfl
  refine P.mul_str (by rw [decide_eq_false (by omega), decide_eq_false (by omega)]; rfl) (fun _ _ => ?_) (fun _ _ => ?_) ?_
  · rw [h3]
    have : (1 : Int) ≤ (2 ^ 63 - 1) / n := Int.le_ediv_of_mul_le (by omega) (by omega)
    omega
  · unfold PySem.Builtin.Str.tooLong
    rw [h3]
    exact decide_eq_false (by rw [sizeLine_eq]; omega)
  · rw [if_neg c1, c2, if_neg (by decide)]
    refine ⟨?_, ⟨.str (repS z n.toNat), H, I.tok _, ⟨_, rfl⟩, q⟩⟩
    show (repS z n.toNat).length ≤ sizeLine
    rw [repS_len, h3, sizeLine_eq]
    omega
theorem vals_of_get : ∀ {xs : List V} {us : List Value}, xs.length = us.length → (∀ (i : Nat) x u, xs[i]? = some x → us[i]? = some u → RelV x u) → Vals xs us
  | [], [], _, _ => .nil
  | x :: xs, u :: us, hl, h => .cons (h 0 x u rfl rfl) (vals_of_get (by simpa using hl) fun i y v a b => h (i + 1) y v (by simpa using a) (by simpa using b))
  | [], _ :: _, hl, _ => by simp at hl
  | _ :: _, [], hl, _ => by simp at hl
def chars (z : Str) : List V := z.cps.toList.map fun c => V.str ⟨#[c]⟩
def rListS : List V → Hp → VK → Prop := fun xs H Q => ∃ z, xs = [.str z] ∧ z.length ≤ sizeLine ∧ ∀ l, H l = none → ap Q (.ref l) (upd H l (.lst (chars z)))
theorem call_listS (hc : X.calm = true) : CallR X (.type "list") rListS := by
  intro pins s σ H xs us Q I r h
  obtain ⟨z, rfl, hz, q⟩ := h
  obtain ⟨u, rfl, rx⟩ := vals1 r
  obtain ⟨t, rfl⟩ := rx
  refine call_list_str (I.ok.hd hc) z t (fun h' tk acc c k e it => ?_) hz
  have rl : Vals (chars z) acc.toList := by
    refine vals_of_get ?_ fun i x u hx hu => ?_
    · unfold chars
      rw [List.length_map, Array.length_toList, Array.length_toList, it.1]
    · obtain ⟨c, t, e1, rfl⟩ := it.2 i u (by simpa using hu)
      have e2 : z.cps.toList[i]? = some c := by simpa using e1
      unfold chars at hx
      rw [List.getElem?_map, e2] at hx
      cases hx
      exact ⟨t, rfl⟩
  refine ⟨.ref s.heap.objs.size, _, I.laid (t' := tk) k (Nat.le_refl _) (o := .lst (chars z)) ⟨by unfold chars; rw [List.length_map]; exact hz, acc.toList, c, rl, by simpa using e⟩, rfl, q _ (I.hok.fresh (Nat.le_refl _))⟩
end
end L3
namespace L3
open PySem PySem.Calls PySem.NumText PyProof.Rows PySem.W PySem.W.KIN
def DigitsFree (h : Heap) : Prop := ∃ mc, h.Ns cStatics mc ∧ mc "sys.int_max_str_digits" = none
theorem wp_digits {M : Model} {A : Around} {E : Value → Shared → Prop} {s : Shared} {Q : Nat → Shared → Prop} (hm : DigitsFree s.heap) (h : Q 4300 s) : wpAny M A PySem.Builtin.intMaxStrDigits Q E s := by
  obtain ⟨mc, h1, h2⟩ := hm
  unfold PySem.Builtin.intMaxStrDigits
  refine wpAny_bind (wpAny_nsGet h1 ?_)
  rw [h2]
  exact wpAny_pure h
theorem wp_textL {M : Model} {A : Around} {E : Value → Shared → Prop} {s : Shared} {Q : Value → Shared → Prop} {v : Value} {text : List Nat} {n : Int} (hm : DigitsFree s.heap)
    (hs : ¬ (text.takeWhile (· != 0)).length ≤ 640) (hr : (int_private% "readNumeral") 4300 10 (text.takeWhile (· != 0)) = (int_private% "Numeral.value") n)
    (ha : ((text.takeWhile (· != 0)).length == text.length) = true) (h : Q (.int n s.toks) { s with toks := s.toks + 1 }) :
    wpAny M A ((int_private% "intFromText") v text 10) Q E s := by
  obtain ⟨hp, g, d, tk, os⟩ := s
  repeat (any_goals (first
    | assumption
    | (with_reducible refine wpAny_ite_false (decide_eq_false hs) ?_)
    | (with_reducible refine wpAny_ite_true (decide_eq_true ha) ?_)
    | (with_reducible refine wp_digits hm ?_)
    | wp_step))
  all_goals (try rw [hr])
  all_goals (try dsimp only)
  repeat (any_goals (first
    | assumption
    | (with_reducible refine wpAny_ite_true (decide_eq_true ha) ?_)
    | wp_step))
structure HidL (p : Prop) : Prop where
  out : p
theorem meets_textL {x : PySem.Str} {u : Tok} {n : Int} (hl : ¬ (numSeenOf x).length ≤ 640) (hr : (int_private% "readNumeral") 4300 10 (numSeenOf x) = (int_private% "Numeral.value") n)
    (ha : ((numSeenOf x).length == (numTextOf x).length) = true) : Meets (Builtin.«int.__new__» ⟨[.type "int", .str x u], []⟩) (fun _ R s => DigitsFree s.heap ∧ R (.ok (.ret (.int n s.toks))) { s with toks := s.toks + 1 }) := by
  intro prog w A R s h
  obtain ⟨hm, h⟩ := h
  obtain ⟨hp, g, d, tk, os⟩ := s
  have g1 := F.conv_sub_int
  have g2 := F.madeHere_int
  have g3 := str_int
  have g4 := str_idx
  have g5 := str_trunc
  have g6 : typeOf (.str x u) = pure (.type "str") := rfl
  have hk := HidL.mk (And.intro hl (And.intro hr ha))
  clear hl hr ha
  repeat (any_goals (first
    | assumption
    | ((with_reducible show wpAny _ _ ((int_private% "intFromText") _ _ _) _ _ _); refine wp_textL hm hk.out.1 hk.out.2.1 hk.out.2.2 ?_)
    | wp_step))
theorem call_textL {prog : Program} {w : World} {A : Around} {E : Value → Shared → Prop} {s : Shared} {Q : Value → Shared → Prop} {x : PySem.Str} {u : Tok} {n : Int} (hm : DigitsFree s.heap) (hl : ¬ (numSeenOf x).length ≤ 640) (hr : (int_private% "readNumeral") 4300 10 (numSeenOf x) = (int_private% "Numeral.value") n)
    (ha : ((numSeenOf x).length == (numTextOf x).length) = true) (h : Q (.int n s.toks) { s with toks := s.toks + 1 }) :
    wpAny (model prog w) A (call (.type "int") [.str x u]) Q E s := call_int_1 (meets_textL hl hr ha) ⟨hm, rfl, h⟩
end L3
namespace L3
open PySem PySem.Spec PyProof.Rows L2
namespace FnK
theorem slot : Slot "function" "__getattribute__" "object.__getattribute__" := .of (owner := "object") (n := "__getattribute__")
  (by rw [typeLookup_type, builtinLookup_eq_fast]; kernel_rfl) (by decide +kernel) (by decide +kernel) (by decide +kernel) (by first | exact .inl (by decide +kernel) | exact .inr (by decide +kernel)) (by rw [isSubtype_type]; kernel_rfl)
theorem look : typeLookup (.type "function") "__class__" = pure (some (.builtin "object.__class__")) := by
  rw [typeLookup_type, builtinLookup_eq_fast]; kernel_rfl
theorem below : isSubtype (.type "function") (.type (".".intercalate ("object.__class__".cutAt '.').dropLast)) = pure true := by
  rw [F.owner_object_class, isSubtype_type]; kernel_rfl
section
variable {prog : Program} {w : World} {A : Around} {E : Value → Shared → Prop} {hp : Heap} {gs : Array GenState} {dr : Drawn} {tk : Nat} {os : OsState} {f : Addr} {ob : Obj}
theorem got {R : Result → Shared → Prop} (e : hp.get? f = some ob) (c : ob.cls = .type "function") (k : R (.ok (.ret (.type "function"))) ⟨hp, gs, dr, tk, os⟩) :
    codeAny (model prog w) A (.call (.builtin "getset_descriptor.__get__") ⟨[.builtin "object.__class__", .ref f, .type "function"], []⟩) R ⟨hp, gs, dr, tk, os⟩ := by
  have y1 : (⟨hp, gs, dr, tk, os⟩ : Shared).TypeIs (.ref f) "function" := ⟨_, e, c⟩
  have y2 : (⟨hp, gs, dr, tk, os⟩ : Shared).TypeIs (.builtin "object.__class__") "getset_descriptor" := F.typeOf_object_class
  have y3 := below
  refine codeAny_call_builtin F.slot_gs_get.plain F.entry_gs_get (F.slot_gs_get.check _ _ _ _ _ _ _ _ y2 (F.args_gs_get _ _ _) ?_)
  repeat (any_goals (first | assumption | wp_step))
  refine ⟨Code.quiet_builtin _ (by decide +kernel), codeAny_builtin F.entry_object_class ?_⟩
  repeat (any_goals (first | assumption | wp_step))
theorem entry {t : Tok} {Q : Fin → Shared → Prop} (e : hp.get? f = some ob) (c : ob.cls = .type "function") (k : Q (.done (.ret (.type "function"))) ⟨hp, gs, dr, tk, os⟩) :
    wpAny (model prog w) A (Builtin.«object.__getattribute__» ⟨[.ref f, .str "__class__" t], []⟩) Q E ⟨hp, gs, dr, tk, os⟩ := by
  have y1 : (⟨hp, gs, dr, tk, os⟩ : Shared).TypeIs (.ref f) "function" := ⟨_, e, c⟩
  have y2 : (⟨hp, gs, dr, tk, os⟩ : Shared).TypeIs (.builtin "object.__class__") "getset_descriptor" := F.typeOf_object_class
  have y3 := look
  have y4 := F.typeOf_object_class
  have y5 := F.slot_gs_get.lookup
  have y6 := F.slot_gs_set.lookup
  repeat (any_goals (first | assumption | wp_step))
  refine got e c ?_
  repeat (any_goals (first | assumption | wp_step))
theorem by_ {t : Tok} {Q : Value → Shared → Prop} (e : hp.get? f = some ob) (c : ob.cls = .type "function") (k : Q (.type "function") ⟨hp, gs, dr, tk, os⟩) :
    wpAny (model prog w) A (getAttrBy (.ref f) (.str "__class__" t) false) Q E ⟨hp, gs, dr, tk, os⟩ := by
  have y1 : (⟨hp, gs, dr, tk, os⟩ : Shared).TypeIs (.ref f) "function" := ⟨_, e, c⟩
  have y2 := slot.lookup
  have y3 := slot.bind (.ref f)
  repeat (any_goals (first | assumption | wp_step))
  refine codeAny_call_builtin slot.plain F.entry_object_getattribute (slot.check _ _ _ _ _ _ _ _ y1 (F.args_object_getattribute_2 _ _) (entry e c ?_))
  repeat (any_goals (first | assumption | wp_step))
theorem attr {Q : Option Value → Shared → Prop} (e : hp.get? f = some ob) (c : ob.cls = .type "function") (k : Q (some (.type "function")) ⟨hp, gs, dr, tk + 1, os⟩) :
    wpAny (model prog w) A (getAttr? (.ref f) "__class__") Q E ⟨hp, gs, dr, tk, os⟩ := by
  unfold getAttr? getAttrBy?
  repeat (any_goals (first | assumption | with_reducible apply by_ e c | wp_step))
end
theorem kit {K : PySem.W.Frag} {f : Addr} : PySem.W.KitX K (.ref f) (.type "function") (PySem.W.KitAt f "function") :=
  PySem.W.kitx_of PySem.W.kitAt_ty (fun {_ _ _ _ _ s} p k => by
    obtain ⟨hp, gs, dr, tk, os⟩ := s
    obtain ⟨o, h1, h2⟩ := p
    exact attr h1 h2 k)
end FnK
/-- a function object -/
def FnV (f : Addr) : HO := .ext fun h => ∃ o, h.get? f = some o ∧ o.cls = .type "function"
/-- a value's type -/
inductive TyA (K : PySem.W.Frag) (H : Hp) : V → Value → Prop where
  | x {v : V} {t : Value} (h : TyX K H v t) : TyA K H v t
  | fn {f : Addr} (e : H f = some (FnV f)) : TyA K H (.ref f) (.type "function")
def rIsiA (K : PySem.W.Frag) : List V → Hp → VK → Prop := fun xs H Q => ∃ (x c : V) (t u : Value) (b : Bool), xs = [x, c] ∧ ClsV c u ∧ TyA K H x t ∧ PySem.W.kitOne K t u = some b ∧ Q (.bl b) H
theorem callIsi {X : Cx} : CallR X (.builtin "isinstance") (rIsiA X.K) := by
  intro pins s σ H xs us Q I r h
  obtain ⟨x, c, t, u, b, rfl, k, ty, e, q⟩ := h
  cases ty with
  | x ty => exact call_isi pins s σ H _ us Q I r ⟨x, c, t, u, b, rfl, k, ty, e, q⟩
  | @fn f ef =>
    obtain ⟨u1, u2, rfl, r1, r2⟩ := vals2 r
    have e2 := k.eq r2
    subst e2
    cases (show u1 = Value.ref f from r1)
    obtain ⟨⟨o, h1, h2⟩, _, _⟩ := (show ObjOk X.prog X.w H s.heap f (FnV f) from I.hok f _ ef)
    exact PySem.W.kia_one (FnK.kit (K := X.K) (f := f)) I.kIn ⟨o, h1, h2⟩ e (fun z => nomatch z) fun tk => ⟨.bl b, H, I.tok tk, rfl, q⟩
end L3
namespace L3
open PySem PySem.Spec PyProof.Rows L2 LamX
theorem Tabs.up {T : List (Addr × Str)} {H : Hp} {p : Addr} {o : HO} (t : Tabs T H) (h : H p = none) : Tabs T (upd H p o) := t.ext (ex_new h)
section
variable {X : Cx}
def rAddU : R2 := fun x y H Q => rI0 (fun i j => V.int (i + j)) x y H Q ∨ (∃ i j, x = .str i ∧ y = .str j ∧ i.length + j.length ≤ sizeLine ∧ Q (.str (i ++ j)) H) ∨ rCat x y H Q
theorem opAdd : OpR X (binaryOp .Add) rAddU := OpR.or op_add (OpR.or op_add_str op_cat)
def rMulU : R2 := fun x y H Q => rI IntMulOk (fun i j => V.int (i * j)) x y H Q ∨ rMulS x y H Q ∨ rRep x y H Q
theorem opMul : OpR X (binaryOp .Mult) rMulU := OpR.or (opI fun _ _ _ _ _ _ _ hc q => mul_int q hc) (OpR.or op_mulS op_rep)
theorem opEq (hu : X.A.units + 64 < cLine) : OpR X (compareOp .Eq) (rEqU X.K) := OpR.or op_eq (op_eqD hu)
theorem opNe (hu : X.A.units + 64 < cLine) : OpR X (compareOp .NotEq) (rNeU X.K) := OpR.or op_ne (op_neD hu)
def rIsU : R2 := fun x y H Q => (y = .non ∧ Q (.bl (decide (x = .non))) H) ∨ rIsB x y H Q
theorem opIs : OpR X (compareOp .Is) rIsU := OpR.or op_isN op_isBl
def rIsNotU : R2 := fun x y H Q => (y = .non ∧ Q (.bl (!decide (x = .non))) H) ∨ rNotB x y H Q
def rInU (K : PySem.W.Frag) : R2 := fun x y H Q => rInS x y H Q ∨ rIn K false x y H Q
def rNotInU (K : PySem.W.Frag) : R2 := fun x y H Q => rNotInS x y H Q ∨ rIn K true x y H Q
theorem IxR.or {r r' : R2} (h : IxR X r) (h' : IxR X r') : IxR X (fun x y H Q => r x y H Q ∨ r' x y H Q) := by
  intro value slice pins s σ H x y v u Q I rx ry q hs
  rcases q with q | q
  · exact h value slice pins s σ H x y v u Q I rx ry q hs
  · exact h' value slice pins s σ H x y v u Q I rx ry q hs
def rIxU (K : PySem.W.Frag) : R2 := fun x y H Q => rIxL K x y H Q ∨ rIxT K x y H Q ∨ rIxS x y H Q
theorem ixU : IxR X (rIxU X.K) := IxR.or ix_list (IxR.or ix_tup ix_str)
def rSlU (K : PySem.W.Frag) : V → Option Int → Option Int → Hp → VK → Prop := fun x lo hi H Q => rSlL K x lo hi H Q ∨ rSlS x lo hi H Q
theorem slU : SlR X (rSlU X.K) := SlR.or sl_list sl_str
theorem CallR.or {f : Value} {r r' : List V → Hp → VK → Prop} (h : CallR X f r) (h' : CallR X f r') : CallR X f (fun xs H Q => r xs H Q ∨ r' xs H Q) := by
  intro pins s σ H xs us Q I rs q
  rcases q with q | q
  · exact h pins s σ H xs us Q I rs q
  · exact h' pins s σ H xs us Q I rs q
/-- int(x): an int, a bool, a text -/
def rIntT : List V → Hp → VK → Prop := fun xs H Q => ∃ a n, xs = [.str a] ∧ PySem.intText? a = some n ∧ a.length ≤ 640 ∧ Q (.int n) H
def rIntL (K : PySem.W.Frag) : List V → Hp → VK → Prop := fun xs H Q => ∃ a n, xs = [.str a] ∧ PySem.intText? a = some n ∧ PySem.W.nsIn K cStatics "sys.int_max_str_digits" = some none ∧ ¬ (numSeenOf a).length ≤ 640 ∧ a.length ≤ sizeLine ∧ Q (.int n) H
theorem ns_none {K : PySem.W.Frag} {h : Heap} {a : Addr} {m : Str → Option Value} {x : Str} (kin : K.In h) (g : h.Ns a m) (e : PySem.W.nsIn K a x = some none) : m x = none := by
  obtain ⟨o, es, ep, ho, hd, _, hf⟩ := g
  cases hk : K.lookup a with
  | none => unfold PySem.W.nsIn at e; rw [hk] at e; cases e
  | some o' =>
    have z := kin _ _ hk
    rw [ho] at z
    cases z
    obtain ⟨c, d, dt, sl⟩ := o
    cases hd
    unfold PySem.W.nsIn at e
    rw [hk] at e
    cases he : es.toList.find? (·.key.isStr x) with
    | some y =>
      exfalso
      revert e
      show (match es.toList.find? (·.key.isStr x) with | some e => some (some e.val) | none => if es.toList.any (·.refKey) then none else some none) = some none → False
      rw [he]
      intro e; cases e
    | none =>
      rw [← hf]
      unfold nsFind findBy
      rw [← Array.find?_toList, he]
      rfl
theorem digits_free {K : PySem.W.Frag} {h : Heap} (kin : K.In h) (hl : h.NoLimit) (e : PySem.W.nsIn K cStatics "sys.int_max_str_digits" = some none) : DigitsFree h := by
  obtain ⟨mc, hn, _⟩ := hl
  refine ⟨mc, hn, ?_⟩
  exact ns_none kin hn e
def rIntU (K : PySem.W.Frag) : List V → Hp → VK → Prop := fun xs H Q => rInt1 xs H Q ∨ rIntT xs H Q ∨ rIntL K xs H Q
theorem callIntL : CallR X (.type "int") (rIntL X.K) := by
  intro pins s σ H xs us Q I rs h
  obtain ⟨a, n, rfl, hn, hk, hl, hz, q⟩ := h
  obtain ⟨u, rfl, rx⟩ := vals1 rs
  obtain ⟨t, rfl⟩ := rx
  rcases read4300 a hz with ⟨m, e1, e2, e3⟩ | ⟨e1, _⟩
  · rw [hn] at e1
    cases e1
    exact call_textL (digits_free I.kIn I.nolimit hk) hl e3 e2 ⟨.int n, H, I.tok _, ⟨_, rfl⟩, q⟩
  · rw [hn] at e1; cases e1
theorem callInt : CallR X (.type "int") (rIntU X.K) := CallR.or call_int1 (CallR.or call_int_str callIntL)
def rListU (K : PySem.W.Frag) : List V → Hp → VK → Prop := fun xs H Q => (∃ p ys, xs = [.ref p] ∧ (SqL K H p ys ∨ SqT K H p ys) ∧ ∀ l, H l = none → Q (.ref l) (upd H l (.lst ys))) ∨ rListS xs H Q
theorem callList (hc : X.calm = true) : CallR X (.type "list") (rListU X.K) := CallR.or call_list_of (call_listS hc)
end
end L3
end
section
namespace KX
open PySem PySem.Spec PyProof.Rows L2 LamX L3
section
variable {X : Cx} {K : PySem.W.Frag} (hK : X.K = K := by rfl)
include hK
theorem ixU : IxR X (rIxU K) := by subst hK; exact L3.ixU
theorem slU : SlR X (rSlU K) := by subst hK; exact L3.slU
theorem callInt : CallR X (.type "int") (rIntU K) := by subst hK; exact L3.callInt
theorem callIsi : CallR X (.builtin "isinstance") (rIsiA K) := by subst hK; exact L3.callIsi
theorem callLen : CallR X (.builtin "len") (rLen1 K) := by subst hK; exact call_len
theorem callList (hc : X.calm = true) : CallR X (.type "list") (rListU K) := by subst hK; exact L3.callList hc
theorem callRepr (hg : X.A.guards = some []) (hu : X.A.units + 64 < cLine) : CallR X (.builtin "repr") (rRepr K) := by subst hK; exact call_reprD hg hu
theorem eqU (hu : X.A.units + 64 < cLine) : OpR X (compareOp .Eq) (rEqU K) := by subst hK; exact opEq hu
theorem neU (hu : X.A.units + 64 < cLine) : OpR X (compareOp .NotEq) (rNeU K) := by subst hK; exact opNe hu
theorem fld {e : Expr} {f : Str} {pos : Pos} {ta : TE} (ha : PE X e ta) (hb : attributeBase e f X.env (eval e X.env) = eval e X.env) : PE X (.Attribute e f pos) (tFld K ta f) := by subst hK; exact pe_fld ha hb
end
end KX
namespace L3
open PySem PySem.Spec PyProof.Rows L2 LamX
section
variable {σ : L2.St} {H : Hp} {D : Ends} {Q : VK} {v x y : V} {K : PySem.W.Frag} {te ta tb : TE}
theorem iteNF {A B : Prop} (h : A) : if (!false) = true then A else B := iteT h
theorem iteNT {A B : Prop} (h : B) : if (!true) = true then A else B := iteF h
theorem s_pair {i j : Nat} {tt : TA} (h : tt σ H fun vs H1 => ∃ v w, vs = [v, w] ∧ D.nx ((σ.set i (some v)).set j (some w)) H1) : tPar i j tt D σ H := h
theorem s_pair2 {R : V → V → Prop} (h : R x y) : ∃ v w, [x, y] = [v, w] ∧ R v w := ⟨x, y, rfl, h⟩
theorem s_fld {tv : TE} {f : Str} (h : tv σ H fun y H1 => ta σ H1 fun x H2 => ∃ a C dx fs, x = .ref a ∧ H2 a = some (.ins C dx fs) ∧ Cls K C ∧ NoAttr K C f ∧ fs.length < 1000 ∧ D.nx σ (upd H2 a (.ins C dx (putF f y fs)))) : sFld K ta tv f D σ H := h
theorem s_make {C : Addr} {sp : Sp} {dvs : List V} {E : XK} {tt : TA} (h : tt σ H fun vs H1 => ∀ p dx, H1 p = none → H1 dx = none → dx ≠ p → sp (.ref p :: (vs ++ dvs)) (upd (upd H1 dx (.own p)) p (.ins C dx [])) (fun v H2 => v = .non ∧ ap Q (.ref p) H2) E) : tMake C sp dvs E tt σ H Q := h
theorem s_pow {g : Int → Int → V} {i j : Int} (c : CPow i j) (h : Q (g i j) H) : rI CPow g (.int i) (.int j) H Q := ⟨i, j, rfl, rfl, c, h⟩
theorem s_m1 {r : V → List V → Hp → VK → Prop} (h : ta σ H fun x H1 => (∃ a, x = .str a) ∧ tb σ H1 fun y H2 => r x [y] H2 Q) : tM1 r ta tb σ H Q := h
theorem s_isstr {z : Str} {R : Prop} (h : R) : (∃ a, V.str z = .str a) ∧ R := ⟨⟨z, rfl⟩, h⟩
theorem s_addI {i j : Int} (h : Q (.int (i + j)) H) : rAddU (.int i) (.int j) H Q := .inl ⟨i, j, rfl, rfl, h⟩
theorem s_addL {l b : Addr} {xs zs : List V} (e : H l = some (.lst xs)) (e' : H b = some (.lst zs)) (z : xs.length + zs.length ≤ sizeLine) (h : ∀ p H2, H p = none → Ex H H2 → H2 p = some (.lst (xs ++ zs)) → Q (.ref p) H2) : rAddU (.ref l) (.ref b) H Q :=
  .inr (.inr ⟨l, b, xs, zs, rfl, rfl, e, e', z, fun p hp => h p _ hp (ex_new hp) upd_same⟩)
theorem s_mulI {i j : Int} (c : IntMulOk i j) (h : Q (.int (i * j)) H) : rMulU (.int i) (.int j) H Q := .inl ⟨i, j, rfl, rfl, c, h⟩
theorem s_isN (h : Q (.bl (decide (x = .non))) H) : rIsU x .non H Q := .inl ⟨rfl, h⟩
theorem s_isB {a b : Bool} (h : Q (.bl (decide (a = b))) H) : rIsU (.bl a) (.bl b) H Q := .inr ⟨a, b, rfl, rfl, h⟩
theorem s_nisN (h : Q (.bl (!decide (x = .non))) H) : rIsNotU x .non H Q := .inl ⟨rfl, h⟩
theorem s_nisB {a b : Bool} (h : Q (.bl (!decide (a = b))) H) : rIsNotU (.bl a) (.bl b) H Q := .inr ⟨a, b, rfl, rfl, h⟩
theorem s_inS {c : Nat} {z : Str} (h : Q (.bl (decide (c ∈ z.cps.toList))) H) : rInU K (.str ⟨#[c]⟩) (.str z) H Q := .inl ⟨c, z, rfl, rfl, h⟩
theorem s_ninS {c : Nat} {z : Str} (h : Q (.bl (!decide (c ∈ z.cps.toList))) H) : rNotInU K (.str ⟨#[c]⟩) (.str z) H Q := .inl ⟨c, z, rfl, rfl, h⟩
theorem s_iL {p : Addr} {xs : List V} {i : Int} (hp : H p = some (.lst xs)) (e : atI xs i = some v) (h : Q v H) : rIxU K (.ref p) (.int i) H Q := .inl ⟨p, xs, i, v, rfl, rfl, .inl (.inl hp), e, h⟩
theorem s_iT {p : Addr} {xs : List V} {i : Int} (hp : H p = some (.tup xs)) (e : atI xs i = some v) (h : Q v H) : rIxU K (.ref p) (.int i) H Q := .inr (.inl ⟨p, xs, i, v, rfl, rfl, .inl (.inl hp), e, h⟩)
theorem s_slice {r : V → Option Int → Option Int → Hp → VK → Prop} {tl th : TO} (h : te σ H fun x H1 => tl σ H1 fun l H2 => th σ H2 fun u H3 => r x l u H3 Q) : tSl r te tl th σ H Q := h
theorem s_part {R : Option Int → Hp → Prop} (h : te σ H fun x H1 => ∃ i, x = .int i ∧ R (some i) H1) : tPart te σ H R := h
theorem s_partI {R : Int → Prop} {i : Int} (h : R i) : ∃ j, V.int i = .int j ∧ R j := ⟨i, rfl, h⟩
theorem s_nopart {R : Option Int → Hp → Prop} (h : R none H) : tNoPart σ H R := h
theorem s_slL {p : Addr} {xs : List V} {lo hi : Option Int} (hs : SqL K H p xs) (h : ∀ q H2, H q = none → Ex H H2 → H2 q = some (.lst (cutV xs lo hi)) → Q (.ref q) H2) : rSlU K (.ref p) lo hi H Q :=
  .inl ⟨p, xs, rfl, hs, fun q hq => h q _ hq (ex_new hq) upd_same⟩
theorem s_cI {i : Int} (h : Q (.int i) H) : rIntU K [.int i] H Q := .inl (.inl ⟨i, rfl, h⟩)
theorem s_cB {b : Bool} (h : Q (.int (if b then 1 else 0)) H) : rIntU K [.bl b] H Q := .inl (.inr ⟨b, rfl, h⟩)
theorem s_listL {p : Addr} {xs : List V} (hs : SqL K H p xs) (h : ∀ q H2, H q = none → Ex H H2 → H2 q = some (.lst xs) → Q (.ref q) H2) : rListU K [.ref p] H Q :=
  .inl ⟨p, xs, rfl, .inl hs, fun q hq => h q _ hq (ex_new hq) upd_same⟩
theorem s_isiT {n : String} {t : Value} {b : Bool} (ty : TyA K H x t) (e : PySem.W.kitOne K t (.type n) = some b) (h : Q (.bl b) H) : rIsiA K [x, .ty n] H Q := ⟨x, .ty n, t, .type n, b, rfl, .ty n, ty, e, h⟩
theorem s_isiC {C : Addr} {t : Value} {b : Bool} (ty : TyA K H x t) (e : PySem.W.kitOne K t (.ref C) = some b) (h : Q (.bl b) H) : rIsiA K [x, .ref C] H Q := ⟨x, .ref C, t, .ref C, b, rfl, .own C, ty, e, h⟩
theorem s_repr {d : PyData} (hd : Dp K H x d) (h1 : d.showable = true) (h2 : d.depth ≤ 60) (h3 : d.shown.length ≤ sizeLine) (h : Q (.str d.shown) H) : rRepr K [x] H Q := ⟨x, d, rfl, hd, h1, h2, h3, h⟩
theorem s_chain {r r' : R2} {tc : TE} (h : ta σ H fun x H1 => tb σ H1 fun y H2 => r x y H2 fun z H3 => ∃ k, z = .bl k ∧ (if k = true then tc σ H3 fun w' H4 => r' y w' H4 Q else Q (.bl false) H3)) : tChain r r' ta tb tc σ H Q := h
theorem s_bm {T : String} {r : V → List V → Hp → VK → Prop} {t : TA} (h : te σ H fun x H1 => tyV K T x H1 ∧ t σ H1 fun xs H2 => r x xs H2 Q) : tBM K T r te t σ H Q := h
theorem s_tyL {p : Addr} {xs : List V} {R : Prop} (hp : H p = some (.lst xs)) (h : R) : tyV K "list" (.ref p) H ∧ R := ⟨.inl ⟨rfl, _, .inl (.inl hp)⟩, h⟩
theorem s_app {p : Addr} {xs : List V} (hp : H p = some (.lst xs)) (hz : xs.length < sizeLine) (h : Q .non (upd H p (.lst (xs ++ [y])))) : rAppend (.ref p) [y] H Q := ⟨p, xs, y, rfl, rfl, hp, hz, h⟩
def LC (J : It) (g : TG) (tt : TT) (te : TE) (vs : List Nat) (σ : L2.St) (H1 : Hp) (Q : VK) : Prop := ∀ D, H1 D = none → ∃ W : Nat → Nat → Hp → Prop, (∃ m, W 0 m (upd H1 D (.lst []))) ∧ ∀ i m H, W i m H →
  (J.stop i H ∧ Q (.ref D) H) ∨ (J.go i H ∧ ∃ Nx : Hp → Prop, (∀ H', Nx H' → ∃ m', m' < m ∧ W (i + 1) m' H') ∧ ∀ x H', J.yld i H x H' → g x (wipe σ vs) H' fun σ2 H2 => wipe σ2 vs = wipe σ vs ∧ tt σ2 H2 fun b H3 =>
    if b = true then te σ2 H3 fun y H4 => ∃ acc, H4 D = some (.lst acc) ∧ acc.length < sizeLine ∧ Nx (upd H4 D (.lst (acc ++ [y]))) else Nx H3)
theorem s_lcS {g : TG} {tt : TT} {vs : List Nat} (h : ta σ H fun v H1 => ∃ z, v = .str z ∧ LC (Its z) g tt te vs σ H1 Q) : tLc (iStr ta) g tt te vs σ H Q := h
theorem s_lcR {g : TG} {tt : TT} {vs : List Nat} {tr : TA} (h : tr σ H fun ws H1 => ∃ j : Int, ws = [.int j] ∧ -(2 ^ 62) ≤ j ∧ j < 2 ^ 62 ∧ LC (Itr 0 j.toNat) g tt te vs σ H1 Q) : tLc (iRng1 tr) g tt te vs σ H Q := h
theorem s_strE {R : Str → Prop} {z : Str} (h : R z) : ∃ y, V.str z = .str y ∧ R y := ⟨z, rfl, h⟩
end
end L3
end
section
local macro_rules | `(tactic| tm_at "s1") => `(tactic| first
  | with_reducible first
    | refine L3.s_seq ?_ | refine L3.s_asg ?_ | refine L3.s_op ?_ | refine L3.s_c ?_ | refine L3.s_cb ?_ | refine L3.s_cons ?_ | refine L3.s_nil ?_ | refine L3.s_test ?_ | refine L3.s_bl ?_
    | refine L3.s_I0 ?_ | refine L3.s_and ?_ | refine L3.s_or ?_ | refine L3.s_not ?_ | refine L3.s_if ?_ | refine L3.s_next ?_ | refine L3.s_ret ?_ | refine L3.s_retN ?_ | refine L3.s_asgS ?_ | refine L3.s_drop ?_
    | refine L3.s_un ?_ | refine L3.s_U ?_ | refine L3.s_int ?_ | refine L3.s_intB ?_ | refine L3.s_abs ?_ | refine L3.s_andV ?_ | refine L3.s_orV ?_ | refine L3.s_notV ?_ | refine L3.s_ifE ?_ | refine L3.s_call ?_ | refine L3.s_lst ?_ | refine L3.s_tup ?_ | refine L3.s_tB ?_
    | refine L3.s_addI ?_ | refine L3.s_inS ?_ | refine L3.s_ninS ?_ | refine L3.s_slice ?_ | refine L3.s_part ?_ | refine L3.s_partI ?_ | refine L3.s_nopart ?_ | refine L3.s_cI ?_ | refine L3.s_cB ?_ | refine L3.s_chain ?_ | refine L3.s_bm ?_ | refine L3.s_lcS ?_ | refine L3.s_lcR ?_ | refine L3.s_strE ?_
    | refine L2.iteT ?_ | refine L2.iteF ?_ | refine L3.iteNF ?_ | refine L3.iteNT ?_
    | refine L3.s_eqI ?_ | refine L3.s_neI ?_ | refine L3.s_eqS ?_ | refine L3.s_neS ?_
    | refine L3.s_pair ?_ | refine L3.s_pair2 ?_ | refine L3.s_fld ?_ | refine L3.s_make ?_ | refine L3.s_m1 ?_ | refine L3.s_isstr ?_
    | refine L3.s_isN ?_ | refine L3.s_isB ?_ | refine L3.s_nisN ?_ | refine L3.s_nisB ?_
  | ((with_reducible refine' L3.s_var ?e ?_); (case e => rfl))
  | ((with_reducible refine' L3.s_pow ?c ?_); (case c => exact ⟨by decide, by decide, by decide⟩)))
local macro_rules | `(tactic| tm_at "s") => `(tactic| repeat tm_at "s1")
namespace L3
open PySem PySem.Spec PyProof.Rows L2
theorem mulL {i j : Int} (h : -(2 ^ 64) < i ∧ i < 2 ^ 64) : IntMulOk i j := CMul.ok (.inl h)
def spDraw : Sp := fun vs H Q _ => ∃ a n many, vs = [.ref a, .int many] ∧ 0 < many ∧ many.natAbs < 2 ^ 8000 ∧ Pen H a n ∧ n < lim ∧
  ∀ (d : Int) (H' : Hp), 0 ≤ d → d < many → Pen H' a (n + 1) → (∀ b o, b ≠ a → H b = some o → H' b = some o) → Q (.int d) H'
abbrev rSub : R2 := rI0 fun i j => V.int (i - j)
abbrev rMod : R2 := rI (fun _ j => 0 < j) fun i j => V.int (i % j)
abbrev rDivW : R2 := rI CDivW fun i j => V.int (i / j)
abbrev rPow : R2 := rI CPow fun i j => V.int (i ^ j.toNat)
abbrev t1 (r : List V → Hp → VK → Prop) (te : TE) : TE := tCB r (tCons te tNil)
abbrev tI (i : Int) : TE := tC (.int i)
def tDraw (K : PySem.W.Frag) (c1 c2 c3 c4 c5 c6 c7 c8 c9 c10 : Int) : TS :=
  tSeq (tIfS (tTest (tOp (rI0 fun i j => V.bl (decide (j < i))) (tOp (rIxU K) (tVar 0) (tI 2)) (tI 0)))
    (tSeq (tAsg (tOp rMod (t1 (rIntU K) (tOp (rIxU K) (tVar 0) (tI 2))) (tVar 1)) (gName 2))
    (tSeq (tAsg (tOp rDivW (t1 (rIntU K) (tOp (rIxU K) (tVar 0) (tI 2))) (tVar 1)) (gSub (tVar 0) (tI 2) rSetL))
      (tRet (tVar 2)))) tNext)
  (tSeq (tAsg (tOp (rIxU K) (tVar 0) (tI 1)) (gName 3))
  (tSeq (tAsg (tOp rAddU (tVar 3) (tI 1)) (gSub (tVar 0) (tI 1) rSetL))
  (tSeq (tAsg (tOp rAddU (tOp rMulU (tI c1) (tVar 3)) (tI c2)) (gName 4))
  (Evl.tCut (tIfS (tTest (tOp (rNeU K) (tOp (rIxU K) (tVar 0) (tI 0)) (tLst tNil)))
    (tAsg (tOp (rIxU K) (tOp (rIxU K) (tVar 0) (tI 0)) (tOp rMod (t1 (rIntU K) (tVar 3)) (t1 (rLen1 K) (tOp (rIxU K) (tVar 0) (tI 0))))) (gName 4)) tNext)
  (tSeq (tIfS (tAnd (tTest (tOp (rI0 fun i j => V.bl (decide (i < j))) (tVar 3) (t1 (rLen1 K) (tOp (rIxU K) (tVar 0) (tI 0))))) (tTest (tOp (rI0 fun i j => V.bl (decide (j ≤ i))) (t1 rAbs1 (tVar 4)) (tOp rPow (tI 10) (tI 18)))))
    (tSeq (tAsg (tOp rAddU (tOp rMulU (tI 2) (tOp rSub (t1 rAbs1 (tVar 4)) (tOp rPow (tI 10) (tI 18)))) (t1 (rIntU K) (tOp (rI0 fun i j => V.bl (decide (i < j))) (tVar 4) (tI 0)))) (gName 5))
    (tSeq (tAsg (tOp rDivW (t1 (rIntU K) (tVar 5)) (tVar 1)) (gSub (tVar 0) (tI 2) rSetL))
      (tRet (tOp rMod (t1 (rIntU K) (tVar 5)) (tVar 1))))) tNext)
  (tSeq (tAsg (tOp rMod (t1 (rIntU K) (tOp rPow (tOp rAddU (tOp rAddU (tOp rMod (t1 (rIntU K) (tVar 4)) (tI c3)) (tOp rMulU (tI c4) (tVar 3))) (tI c5)) (tI 5))) (tI c6)) (gName 6))
  (tSeq (tAsg (tOp rMod (t1 (rIntU K) (tOp rPow (tOp rAddU (tOp rAddU (tOp rMulU (tVar 6) (tOp rAddU (tOp rMulU (tI 2) (tVar 3)) (tI c7))) (tOp rMulU (tOp rMulU (tI c8) (tVar 3)) (tVar 3))) (tI c9)) (tI 3))) (tI c10)) (gName 6))
    (tRet (tOp rMod (t1 (rIntU K) (tOp rDivW (tVar 6) (tI 32))) (tVar 1))))))))))
structure DrawC (c1 c2 c3 c4 c5 c6 c7 c8 c9 c10 : Int) : Prop where
  h1 : 0 ≤ c1 ∧ c1 < 1000000
  h3 : 0 < c3 ∧ c3 < 4294967296
  h4 : 0 ≤ c4 ∧ c4 < 1000000
  h5 : 0 ≤ c5 ∧ c5 < 1000000
  h6 : 0 < c6 ∧ c6 < 4294967296
  h7 : 0 ≤ c7 ∧ c7 < 1000000
  h8 : 0 ≤ c8 ∧ c8 < 1000000
  h9 : 0 ≤ c9 ∧ c9 < 1000000
  h10 : 0 < c10 ∧ c10 < 4294967296
theorem shInts (ns : List Int) : SeqAt.shaped (.list (ns.map PyData.int)) = true := by
  have h1 : ∀ l : List Int, PyData.canLayAll0 (l.map PyData.int) = true := by
    intro l
    induction l with
    | nil => rfl
    | cons x r ih => rw [List.map_cons]; unfold PyData.canLayAll0; rw [ih]; rfl
  have h2 : ∀ l : List Int, PyData.depthAll (l.map PyData.int) = 0 := by
    intro l
    induction l with
    | nil => rfl
    | cons x r ih => rw [List.map_cons]; unfold PyData.depthAll; rw [ih]; rfl
  unfold SeqAt.shaped PyData.canLay0 PyData.depth
  rw [h1, h2]; decide
theorem atI_int {α : Type} {xs : List α} {i : Int} (h0 : 0 ≤ i) (h : i < xs.length) : atI xs i = xs[i.toNat]? := by
  unfold atI ixN
  rw [if_pos h0, if_pos h]
  rfl
theorem natAbs_lt {x : Int} {k : Nat} (h0 : 0 ≤ x) (h : x < k) : x.natAbs < k := by omega
theorem rd_draw {K : PySem.W.Frag} {c1 c2 c3 c4 c5 c6 c7 c8 c9 c10 : Int} (C : DrawC c1 c2 c3 c4 c5 c6 c7 c8 c9 c10) {a c : Addr} {n : Nat} {many : Int} {ns : List Int} {H : Hp} {Q : VK} {Nn : L2.St → Hp → Prop} {B1 B2 : L2.St → Hp → Prop}
    (hm : 0 < many) (hm2 : many.natAbs < 2 ^ 8000) (ha : H a = some (PenO a c n)) (hc : H c = some (.lst (ns.map V.int))) (hn : n < lim) (hl : ns.length ≤ 63)
    (k : ∀ (d : Int) (H' : Hp), 0 ≤ d → d < many → (H' a = some (PenO a c (n + 1)) ∧ H' c = some (.lst (ns.map V.int))) → (∀ b o, b ≠ a → H b = some o → H' b = some o) → Q (.int d) H') :
    tPen a c n (n + 1) (tDraw K c1 c2 c3 c4 c5 c6 c7 c8 c9 c10) { nx := Nn, rt := Q, bk := B1, ct := B2 } [some (.ref a), some (.int many), none, none, none, none, none] H := by
  refine ⟨ha, fun spot rest h0 h1 => ?_⟩
  have nca : c ≠ a := fun z => by rw [z, ha] at hc; cases hc
  have fin : ∀ (d spot' rest' : Int) (H1 : Hp), 0 ≤ d → d < many → 0 ≤ spot' → spot' ≤ n + 1 → H1 a = some (.lst [.ref c, .int spot', .int rest']) → (∀ b o, b ≠ a → H b = some o → H1 b = some o) → penBack a c (n + 1) (Q (.int d)) H1 := by
    intro d sp re H1 d0 d1 s0 s1 e q
    exact ⟨sp, re, e, s0, by omega, k d _ d0 d1 ⟨upd_same, by rw [upd_ne nca]; exact q c _ nca hc⟩ (fun b o hb => by rw [upd_ne hb]; exact q b o hb)⟩
  unfold tDraw
  tm_at "s"
  refine s_iL upd_same rfl ?_
  tm_at "s"
  refine iteD (fun hpos => ?_) (fun _ => ?_)
  · tm_at "s"
    refine s_iL upd_same rfl ?_
    tm_at "s"
    refine s_I hm ?_
    tm_at "s"
    refine s_iL upd_same rfl ?_
    tm_at "s"
    refine s_I (wide_div hm hm2 (by decide) (by decide)) ?_
    tm_at "s"
    refine s_setL upd_same rfl ?_
    tm_at "s"
    exact fin _ spot _ _ (Int.emod_nonneg _ (by omega)) (Int.emod_lt_of_pos _ hm) h0 (by omega) upd_same (fun b o hb hh => by rw [upd_ne hb, upd_ne hb]; exact hh)
  · tm_at "s"
    refine s_iL upd_same rfl ?_
    tm_at "s"
    refine s_setL upd_same rfl ?_
    have hs : (spot : Int) ≤ 1000000 := by unfold lim at hn; omega
    tm_at "s"
    refine s_mulI (mulL ⟨by have := C.h1; omega, by have := C.h1; omega⟩) ?_
    tm_at "s"
    refine s_cut (M := fun σ' H' => ∃ cell : Int, σ' = [some (.ref a), some (.int many), none, some (.int spot), some (.int cell), none, none] ∧ H' a = some (.lst [.ref c, .int (spot + 1), .int rest]) ∧ ∀ b o, b ≠ a → H b = some o → H' b = some o) ?_ ?_
    · tm_at "s"
      refine s_iL upd_same rfl ?_
      tm_at "s"
      refine s_new (by decide) fun p H2 hp e2 h2 => ?_
      have a2 : H2 a = some (.lst [.ref c, .int (spot + 1), .int rest]) := e2 _ _ upd_same
      have k2 : ∀ b o, b ≠ a → H b = some o → H2 b = some o := fun b o hb hh => e2 _ _ (by rw [upd_ne hb, upd_ne hb]; exact hh)
      have c2 := k2 c _ nca hc
      clear hp e2
      refine s_neD' (.lst (.inl (.inl c2)) (dpInts ns)) (.lst (.inl (.inl h2)) .nil) (shInts ns) rfl ?_
      tm_at "s"
      refine iteB (fun hne => ?_) (fun _ => ?_)
      · tm_at "s"
        refine s_iL a2 rfl ?_
        tm_at "s"
        refine s_iL a2 rfl ?_
        tm_at "s"
        refine s_lenL c2 ?_
        rw [List.length_map]
        have hns : 0 < ns.length := by
          cases ns with
          | nil => exact absurd hne (by decide)
          | cons x r => exact Nat.succ_pos _
        refine s_I (by omega) ?_
        have hx : spot % (ns.length : Int) < ns.length := Int.emod_lt_of_pos _ (by omega)
        have hx0 : 0 ≤ spot % (ns.length : Int) := Int.emod_nonneg _ (by omega)
        have hxn : (spot % (ns.length : Int)).toNat < ns.length := by omega
        refine s_iL c2 (v := .int (ns[(spot % (ns.length : Int)).toNat]'hxn)) ?_ ?_
        · rw [atI_int hx0 (by rw [List.length_map]; exact hx), List.getElem?_map, List.getElem?_eq_getElem hxn]
          rfl
        · exact ⟨_, rfl, a2, k2⟩
      · tm_at "s"
        exact ⟨_, rfl, a2, k2⟩
    · rintro σ' H2 ⟨cell, rfl, a2, k2⟩
      have c2 := k2 c _ nca hc
      have main : (tSeq (tAsg (tOp rMod (t1 (rIntU K) (tOp rPow (tOp rAddU (tOp rAddU (tOp rMod (t1 (rIntU K) (tVar 4)) (tI c3)) (tOp rMulU (tI c4) (tVar 3))) (tI c5)) (tI 5))) (tI c6)) (gName 6))
          (tSeq (tAsg (tOp rMod (t1 (rIntU K) (tOp rPow (tOp rAddU (tOp rAddU (tOp rMulU (tVar 6) (tOp rAddU (tOp rMulU (tI 2) (tVar 3)) (tI c7))) (tOp rMulU (tOp rMulU (tI c8) (tVar 3)) (tVar 3))) (tI c9)) (tI 3))) (tI c10)) (gName 6))
            (tRet (tOp rMod (t1 (rIntU K) (tOp rDivW (tVar 6) (tI 32))) (tVar 1)))))
          { nx := fun σ' => penBack a c (n + 1) (Nn σ'), rt := fun v => penBack a c (n + 1) (Q v), bk := fun σ' => penBack a c (n + 1) (B1 σ'), ct := fun σ' => penBack a c (n + 1) (B2 σ') }
          [some (.ref a), some (.int many), none, some (.int spot), some (.int cell), none, none] H2 := by
        have hc3 := C.h3; have hc4 := C.h4; have hc5 := C.h5; have hc6 := C.h6; have hc7 := C.h7; have hc8 := C.h8; have hc9 := C.h9; have hc10 := C.h10
        tm_at "s"
        refine s_I hc3.1 ?_
        tm_at "s"
        refine s_mulI (mulL ⟨by omega, by omega⟩) ?_
        tm_at "s"
        have e1 : 0 ≤ cell % c3 := Int.emod_nonneg _ (by omega)
        have e2 : cell % c3 < c3 := Int.emod_lt_of_pos _ hc3.1
        have e3 : 0 ≤ c4 * spot := Int.mul_nonneg hc4.1 h0
        have e4 : c4 * spot ≤ 1000000 * 1000000 := Int.mul_le_mul (by omega) hs h0 (by decide)
        refine s_pow ⟨by decide, by decide, ?_⟩ ?_
        · exact natAbs_lt (by omega) (by show _ < ((2 ^ 64 : Nat) : Int); omega)
        tm_at "s"
        refine s_I hc6.1 ?_
        generalize hg : ((cell % c3 + c4 * spot + c5) ^ (Int.toNat 5)) % c6 = g
        have g0 : 0 ≤ g := by rw [← hg]; exact Int.emod_nonneg _ (by omega)
        have g1 : g < c6 := by rw [← hg]; exact Int.emod_lt_of_pos _ hc6.1
        tm_at "s"
        refine s_mulI (mulL (by decide)) ?_
        tm_at "s"
        refine s_mulI (mulL ⟨by omega, by omega⟩) ?_
        tm_at "s"
        refine s_mulI (mulL ⟨by omega, by omega⟩) ?_
        have f3 : 0 ≤ c8 * spot := Int.mul_nonneg hc8.1 h0
        have f4 : c8 * spot ≤ 1000000 * 1000000 := Int.mul_le_mul (by omega) hs h0 (by decide)
        tm_at "s"
        refine s_mulI (mulL ⟨by omega, by omega⟩) ?_
        have f5 : 0 ≤ c8 * spot * spot := Int.mul_nonneg f3 h0
        have f6 : c8 * spot * spot ≤ 1000000 * 1000000 * 1000000 := Int.mul_le_mul f4 hs h0 (by decide)
        have f7 : 0 ≤ g * (2 * spot + c7) := Int.mul_nonneg g0 (by omega)
        have f8 : g * (2 * spot + c7) ≤ 4294967296 * 3000000 := Int.mul_le_mul (by omega) (by omega) (by omega) (by decide)
        tm_at "s"
        refine s_pow ⟨by decide, by decide, ?_⟩ ?_
        · exact natAbs_lt (by omega) (by show _ < ((2 ^ 64 : Nat) : Int); omega)
        tm_at "s"
        refine s_I hc10.1 ?_
        tm_at "s"
        refine s_I (wide_div (b := 64) (by decide) (by decide) (by decide) (by decide)) ?_
        tm_at "s"
        refine s_I hm ?_
        exact fin _ (spot + 1) rest _ (Int.emod_nonneg _ (by omega)) (Int.emod_lt_of_pos _ hm) (by omega) (by omega) a2 k2
      tm_at "s"
      refine s_iL a2 rfl ?_
      tm_at "s"
      refine s_lenL c2 ?_
      tm_at "s"
      refine iteD (fun _ => ?_) (fun _ => ?_)
      · tm_at "s"
        refine iteD (fun hbig => ?_) (fun _ => ?_)
        · tm_at "s"
          refine s_mulI (mulL (by decide)) ?_
          tm_at "s"
          refine s_I (wide_div hm hm2 (by decide) (by decide)) ?_
          tm_at "s"
          refine s_setL a2 rfl ?_
          tm_at "s"
          refine s_I hm ?_
          exact fin _ (spot + 1) _ _ (Int.emod_nonneg _ (by omega)) (Int.emod_lt_of_pos _ hm) (by omega) (by omega) upd_same (fun b o hb hh => by rw [upd_ne hb]; exact k2 b o hb hh)
        · exact main
      · refine iteF ?_
        exact main
theorem rd_drawS {K : PySem.W.Frag} {c1 c2 c3 c4 c5 c6 c7 c8 c9 c10 : Int} (C : DrawC c1 c2 c3 c4 c5 c6 c7 c8 c9 c10) {a c : Addr} {n : Nat} {many : Int} {ns : List Int} {H : Hp} {Q : VK} {Nn : L2.St → Hp → Prop} {B1 B2 : L2.St → Hp → Prop}
    (hm : 0 < many) (hm2 : many.natAbs < 2 ^ 8000) (ha : H a = some (PenO a c n)) (hc : H c = some (ScO c ns)) (hn : n < lim) (hl : ns.length ≤ 63 ∧ c ≠ a)
    (k : ∀ (d : Int) (H' : Hp), 0 ≤ d → d < many → Pen H' a (n + 1) → (∀ b o, b ≠ a → H b = some o → H' b = some o) → Q (.int d) H') :
    tSc c ns (tPen a c n (n + 1) (tDraw K c1 c2 c3 c4 c5 c6 c7 c8 c9 c10)) { nx := Nn, rt := Q, bk := B1, ct := B2 } [some (.ref a), some (.int many), none, none, none, none, none] H := by
  refine ⟨hc, rd_draw C hm hm2 (by rw [upd_ne (Ne.symm hl.2)]; exact ha) upd_same hn hl.1 fun d H' d0 d1 ⟨p1, p2⟩ q => ?_⟩
  refine ⟨p2, k d _ d0 d1 ⟨c, ns, by rw [upd_ne (Ne.symm hl.2)]; exact p1, upd_same, hl⟩ fun b o hb ho => ?_⟩
  by_cases hbc : b = c
  · subst hbc
    rw [upd_same, ← hc]; exact ho
  · rw [upd_ne hbc]
    exact q b o hb (by rw [upd_ne hbc]; exact ho)
end L3
end
section
namespace L3
open PySem PySem.Spec PyProof.Rows L2 PySem.NumText
theorem len_codes (z : Str) : z.cps.toList.length = z.length := Array.length_toList
def strOf (n : Int) : Str := Str.ofString (toString n)
theorem strOf_nat (n : Nat) : (strOf (n : Int)).cps.toList = TL.numL n := TL.tl_num n
theorem ofString_codes (s : String) : (Str.ofString s).cps.toList = s.toList.map Char.toNat := by
  rw [Str.ofString_eq_toList]
theorem strOf_neg {m : Nat} (h : 0 < m) : (strOf (-(m : Int))).cps.toList = 45 :: TL.numL m := by
  obtain ⟨k, rfl⟩ : ∃ k, m = k + 1 := ⟨m - 1, by omega⟩
  have e : toString (-((k + 1 : Nat) : Int)) = "-" ++ toString (((k + 1 : Nat) : Int)) := rfl
  unfold strOf
  rw [e, ofString_codes, String.toList_append, List.map_append, ← ofString_codes, ← ofString_codes]
  show [45] ++ _ = _
  have := strOf_nat (k + 1)
  unfold strOf at this
  rw [this]
  rfl
end L3
end
section
namespace L3
open PySem PySem.Spec PyProof.Rows L2 LamX
theorem pen_heap (a c : Addr) (n : Nat) : ∃ h : Heap, (∃ (spot rest : Int) (t u : Tok) (k : Nat), h.get? a = some { cls := .type "list", data := .seq #[.ref c, .int spot t, .int rest u] k } ∧ 0 ≤ spot ∧ spot ≤ n) ∧
    ∀ b o, h.get? b = some o → o.cls = .type "list" ∧ ∀ vs, o.data ≠ .fields vs := by
  let ob : Obj := { cls := .type "list", data := .seq #[.ref c, .int 0 0, .int 0 0] 0 }
  refine ⟨{ objs := Array.replicate (a + 1) ob }, ⟨0, 0, 0, 0, 0, ?_, by decide, by omega⟩, fun b o e => ?_⟩
  · unfold Heap.get?
    have : (Array.replicate (a + 1) ob)[a]? = some ob := by simp
    show (match (Array.replicate (a + 1) ob)[a]? with | some ⟨_, _, .freed, _⟩ => none | o => o) = _
    rw [this]
  · unfold Heap.get? at e
    have q : (Array.replicate (a + 1) ob)[b]? = none ∨ (Array.replicate (a + 1) ob)[b]? = some ob := by
      by_cases h : b < a + 1
      · right; simp [h]
      · left; exact Array.getElem?_eq_none (by rw [Array.size_replicate]; exact Nat.le_of_not_lt h)
    change (match (Array.replicate (a + 1) ob)[b]? with | some ⟨_, _, .freed, _⟩ => none | o => o) = some o at e
    rcases q with q | q
    · rw [q] at e; cases e
    · rw [q] at e; cases e
      exact ⟨rfl, fun vs z => nomatch z⟩
theorem codeO_pen {k a c : Addr} {n : Nat} {q : Str} : CodeO k q ≠ PenO a c n := fun e => by
  unfold CodeO PenO at e
  injection e with e
  obtain ⟨h, h1, h2⟩ := pen_heap a c n
  rw [← congrFun e h] at h1
  obtain ⟨o, vs, _, g1, g2, _⟩ := h1
  exact (h2 _ _ g1).2 vs g2
/-- the pen stands, so do the tables -/
structure Wo (T : List (Addr × Str)) (H : Hp) (a : Addr) (n : Nat) : Prop where
  pen : Pen H a n
  tabs : Tabs T H
/-- an object that is told otherwise than a pen does not lie at the pen's place -/
theorem Pen.ne {H : Hp} {a : Addr} {n : Nat} (p : Pen H a n) {b : Addr} {o : HO} (h : H b = some o) (d : ∀ c n, o ≠ PenO a c n) : b ≠ a := fun z => by
  obtain ⟨c, ns, ha, _⟩ := p
  rw [z, ha] at h
  exact d c n (Option.some.inj h).symm
theorem Wo.keep {T : List (Addr × Str)} {H H' : Hp} {a : Addr} {n m : Nat} (w : Wo T H a n) (p : Pen H' a m) (k : ∀ b o, b ≠ a → H b = some o → H' b = some o) : Wo T H' a m := by
  refine ⟨p, fun t ht => ?_⟩
  obtain ⟨ps, h1, h2, h3⟩ := w.tabs t ht
  refine ⟨ps, k _ _ (w.pen.ne h1 fun c n z => by unfold PenO at z; cases z) h1, h2, fun pos cv hc => ?_⟩
  obtain ⟨c, e1, e2⟩ := h3 pos cv hc
  exact ⟨c, e1, k _ _ (w.pen.ne e2 fun _ _ => codeO_pen) e2⟩
theorem Wo.ex {T : List (Addr × Str)} {H H' : Hp} {a : Addr} {n : Nat} (w : Wo T H a n) (k : Ex H H') : Wo T H' a n := by
  obtain ⟨c, ns, h1, h2, h3⟩ := w.pen
  exact ⟨⟨c, ns, k _ _ h1, k _ _ h2, h3⟩, w.tabs.ext k⟩
theorem Xt.trans {a : Addr} {H H1 H2 : Hp} (x : Xt a H H1) (y : Xt a H1 H2) : Xt a H H2 := fun b o h1 h2 h => y b o h1 h2 (x b o h1 h2 h)
theorem Xt.of {a : Addr} {H H' : Hp} (k : ∀ b o, b ≠ a → H b = some o → H' b = some o) : Xt a H H' := fun b o h _ e => k b o h e
def tPenNew (t : TS) : TS := fun D σ H => t { D with rt := fun v H' => ∃ p c rest ns, v = .ref p ∧ H' p = some (.lst [.ref c, .int 0, .int rest]) ∧ H' c = some (.lst ((ns : List Int).map V.int)) ∧ c ≠ p ∧ D.rt v (upd (upd H' p (PenO p c 0)) c (ScO c ns)) } σ H
theorem pss_penNew {X : Cx} {sts : List Stmt} {t : TS} (h : PSs X sts t) : PSs X sts (tPenNew t) := by
  refine ⟨fun pins s σ H D I hw => thn (h.run pins s σ H _ I hw) fun f s' q => ?_⟩
  match f, q with
  | .next, q => exact q
  | .brk, q => exact q
  | .cont, q => exact q
  | .ret u, q =>
    obtain ⟨v, σ', H', I', r, p, c, rest, ns, e, hp, hc, hn, z⟩ := q
    exact ⟨v, σ', _, Inv.scClose (Inv.penClose I' hp (Int.le_refl 0) (Int.le_refl 0)) (by rw [upd_ne hn]; exact hc), r, z⟩
def spPen (K : PySem.W.Frag) : Sp := fun vs H Q _ => ∃ a ns, vs = [.ref a] ∧ SqL K H a (ns.map V.int) ∧ (ns : List Int).length ≤ 63 ∧ ∀ p H', H p = none → Ex H H' → Pen H' p 0 → Q (.ref p) H'
def spPick : Sp := fun vs H Q _ => ∃ a l n xs, vs = [.ref a, .ref l] ∧ H l = some (.lst xs) ∧ xs ≠ [] ∧ xs.length ≤ 100000 ∧ Pen H a n ∧ n < lim ∧
  ∀ v H', v ∈ xs → Pen H' a (n + 1) → (∀ b o, b ≠ a → H b = some o → H' b = some o) → Q v H'
end L3
end
section
namespace L3
open PySem PySem.Spec PyProof.Rows L2
end L3
end
section
namespace L3
open PySem PySem.Spec PyProof.Rows L2
variable {K : PySem.W.Frag} {σ : L2.St} {H : Hp} {te : TE} {Q : VK}
def flatD : V → PyData
  | .int i => .int i
  | .bl b => .bool b
  | .str z => .str z
  | _ => .none
def fitF : V → Bool
  | .int i => decide (i.natAbs.log2 < 1920)
  | .bl _ => true
  | .non => true
  | _ => false
theorem len_app (a b : Str) : (a ++ b).length = a.length + b.length := by
  rw [← len_codes, ← len_codes, ← len_codes]
  show (a.cps ++ b.cps).toList.length = _
  rw [Array.toList_append, List.length_append]
theorem strOf_len {i : Int} {k : Nat} (hk : 0 < k) (h : i.natAbs < 10 ^ k) : (strOf i).length ≤ k + 1 := by
  by_cases h0 : 0 ≤ i
  · obtain ⟨m, rfl⟩ := Int.eq_ofNat_of_zero_le h0
    have e := strOf_nat m
    have hl := TL.numL_len (n := m) (k := k) hk (by simpa using h)
    rw [← len_codes, e]; omega
  · obtain ⟨m, rfl⟩ : ∃ m : Nat, i = -(m : Int) := ⟨i.natAbs, by omega⟩
    have e := strOf_neg (m := m) (by omega)
    have hl := TL.numL_len (n := m) (k := k) hk (by simpa using h)
    rw [← len_codes, e, List.length_cons]; omega
theorem log_big {n : Nat} (h : n.log2 < 1920) : n < 10 ^ 1000 := by
  by_cases h0 : n = 0
  · rw [h0]; exact Nat.pow_pos (by decide)
  · rw [Nat.log2_lt h0] at h
    refine Nat.lt_of_lt_of_le h ?_
    have e : 2 ^ 1920 = (2 ^ 96) ^ 20 := by rw [← Nat.pow_mul]
    have e' : 10 ^ 1000 = (10 ^ 50) ^ 20 := by rw [← Nat.pow_mul]
    rw [e, e']
    exact Nat.pow_le_pow_left (by decide) 20
theorem fit_shown {x : V} (h : fitF x = true) : (flatD x).shown.length ≤ 1001 := by
  cases x with
  | int i => exact strOf_len (by decide) (log_big (of_decide_eq_true h))
  | bl b => show (if b then Str.ofString "True" else "False").length ≤ _; cases b <;> decide
  | non => show (Str.ofString "None").length ≤ _; decide
  | _ => cases h
end L3
end
section
namespace L3
open PySem PySem.Spec PyProof.Rows L2
/-- what the written part says of the class C, its __init__ at f with the code object cda and the cell cc -/
structure SupF (P : Program) (K : PySem.W.Frag) (mg : Str → Option Value) (C f cda cc : Addr) (scope : Scope) : Prop where
  oex : OexC K C
  cell : ∃ cl cld csl, K.lookup cc = some ⟨cl, cld, .cell (some (.ref C)), csl⟩
  code : ∃ ccl cdd vs ccs file tf, K.lookup cda = some ⟨ccl, cdd, .fields vs, ccs⟩ ∧ vs[2]? = some (.str file tf) ∧ ((P.main.file : Str) == file) = true
  mro : PySem.W.mroIn K C (.ref C) = some true
  noS : mg "super" = none
  top : (P.main.scope.names.lookup ("super" : Str)).isSome = false
  opq : PySem.W.nsIn K cStatics "thirdparty.any" = some none
  sup : PySem.W.ks_superIn K C C "__init__" = some (some (.builtin "ValueError.__init__"))
  sub : PySem.W.subIn K (.ref C) (.type "ValueError") = some true
  sSup : scope.names.lookup ("super" : Str) = some .globalImplicit
  sCls : scope.names.lookup ("__class__" : Str) = some .free
def supF (qual : Str) (params : Arguments) (body : List Stmt) (scope : Scope) (cc cda : Addr) : NdefX.NF := ⟨"__init__", qual, params, body, scope, [("__class__", cc)], cda⟩
theorem okSup {P : Program} {w : World} {K : PySem.W.Frag} {mg : Str → Option Value} {base : Heap} {CX : CXT} {k : Nat} {C f cda cc : Addr} {qual msg : Str} {params : Arguments} {rest : List Stmt} {scope : Scope} {kV doc pm ct oc : Value} {an od : Option Addr} {osl : Array (Option Value)} {N ps : List Str} {sp : Sp}
    {p0 p1 p2 p3 p4 p5 : Pos} {j : Nat} {ar : Arg} {body : List Stmt}
    (hbd : body = .Expr (.Call (.Attribute (.Call (.Name "super" p0) [] [] p1) "__init__" p2) [.Constant (.str msg) j p3] [] p4) p5 :: rest)
    (lk : K.lookup f = some ⟨oc, od, .func (PySem.W.fnX "__init__" qual params body scope [("__class__", cc)] .none kV doc pm an (.ref cda) ct), osl⟩) (hcd : PySem.W.codeIn K (.ref cda) qual = true)
    (T : SupF P K mg C f cda cc scope) (S : NdefX.NScope N ps ["__class__"] scope) (hp : (params.posonlyargs ++ params.args).head? = some ar) (hps : ps.head? = some ar.arg) (hN0 : N[0]? = some ar.arg) (hna : scope.names.lookup ar.arg = some .local)
    (hev : ∀ env : Env, env.scope = scope → ∃ pl, eval (.Call (.Attribute (.Call (.Name "super" p0) [] [] p1) "__init__" p2) [.Constant (.str msg) j p3] [] p4) env = (do
      let ov ← attributeBase (.Call (.Name "super" p0) [] [] p1) "__init__" env (eval (.Call (.Name "super" p0) [] [] p1) env)
      standAt p2.atName
      let (f, first) ← holding [ov] (getMethod ov "__init__" pl)
      callWith p4 f first (backTo p4 (starEach [.Constant (.str msg) j p3] env)) []))
    (len : ∀ vs H Q E, sp vs H Q E → vs.length = ps.length)
    (run : ∀ (A : Around) (outer : List Env) (s : Shared) (H : Hp) (vs : List V) (Q : VK) (E : XK), Room k (A.deeper (NdefX.envF (supF qual params body scope cc cda) f s.heap.objs.size)) → sp vs H Q E →
      ∃ a ws, vs = .ref a :: ws ∧ H a = some (exo a C none) ∧ ∃ t, PSs (NdefX.ncx CX P w K mg base N (supF qual params body scope cc cda) f A outer s H E) rest t ∧ t { nx := fun _ H' => Q .non H', rt := Q } (NdefX.startF N vs [some (.ref C)]) H) :
    FnOk P w K mg base CX (k + 1) f (PySem.W.fnX "__init__" qual params body scope [("__class__", cc)] .none kV doc pm an (.ref cda) ct) ps sp := by
  refine ⟨len, fun A outer s H args us vs Q E hr e0 hb r h => ?_⟩
  have KX : K.In s.heap := e0.mod.kin.keeps fun b o e => (e0.bs b o e).1
  have lim : s.heap.NoLimit := e0.mod.nolimit.keeps fun b o e => (e0.bs b o e).1
  obtain ⟨cl, cld, csl, hcell⟩ := T.cell
  have hl := len _ _ _ _ h
  have cells : NdefX.CellsAt [("__class__", cc)] ["__class__"] [some (.ref C)] s.heap H := by
    have hkb := e0.mod.kin _ _ hcell
    have look : ∀ {y c}, List.lookup y [(("__class__" : Str), cc)] = some c → y = "__class__" ∧ c = cc := fun {y c} e => by
      rw [List.lookup_cons] at e
      by_cases hy : y == ("__class__" : Str)
      · rw [hy] at e; exact ⟨beq_iff_eq.mp hy, (Option.some.inj e).symm⟩
      · rw [Bool.eq_false_iff.mpr hy] at e; cases e
    refine ⟨rfl, fun y c e => ?_, fun x y c e1 e2 => (look e1).1.trans (look e2).1.symm, fun i y hy => ?_⟩
    · rw [(look e).2]
      exact ⟨(e0.bs _ _ hkb).2, _, _, KX _ _ hcell, rfl⟩
    · match i, hy with
      | 0, hy =>
        cases hy
        refine ⟨cc, rfl, fun v hv => ?_⟩
        cases hv
        exact ⟨_, rfl, _, KX _ _ hcell, rfl⟩
  refine PySem.ks_codeAny_call_defAt (fd := PySem.W.fnX "__init__" qual params body scope [("__class__", cc)] .none kV doc pm an (.ref cda) ct) (body := body) hr.depth (KX _ _ lk) rfl lim (PySem.W.codeRec_of KX hcd) rfl hb S.nocell (fun ⟨n, _⟩ hy => S.par n (List.of_mem_zip hy).1) (fun h₁ hns kp => ?_) S.co S.gen S.kind
  obtain ⟨a, ws, hvs, ha, t, ht, hq⟩ := run A outer s H vs Q E (hr.deeper _) h
  have I : Inv (NdefX.ncx CX P w K mg base N (supF qual params body scope cc cda) f A outer s H E) [] (NdefX.startF N vs [some (.ref C)]) H { s with heap := h₁, toks := s.toks + (ps.zip us).length } := NdefX.inv_startN S hr.hd e0 hl r cells hns kp
  subst hbd
  subst hvs
  obtain ⟨nm, q, Nn, bs, bm, sn, sub, ab, col, dd, k0, k1, k2, k3, k5, hC, hbm⟩ := T.oex.cls
  obtain ⟨ccl, cdd, vs2, ccs, file, tf, hcode, hv2, hfile⟩ := T.code
  obtain ⟨t1, hox⟩ := exo_at I.hok ha
  have K1 : K.In h₁ := I.kIn
  obtain ⟨u0, us', rfl, r0, r'⟩ : ∃ u0 us', us = u0 :: us' ∧ RelV (.ref a) u0 ∧ Vals ws us' := by
    cases r with
    | cons r0 r' => exact ⟨_, _, rfl, r0, r'⟩
  obtain rfl : u0 = Value.ref a := r0
  have hps0 : ps[0]? = some ar.arg := by rw [← List.head?_eq_getElem?]; exact hps
  have hv : (ps.zip (Value.ref a :: us')).reverse.lookup ar.arg = some (.ref a) := NdefX.zip_look (i := 0) (by
      have e := S.pre
      have nd := S.nd.sublist (List.take_sublist (ps.length + 1) N)
      rw [show (["__class__"] : List Str).length = 1 from rfl] at e
      rw [e] at nd
      exact (List.nodup_append.mp nd).1) hps0 rfl
  obtain ⟨pl, he⟩ := hev (NdefX.envF (supF qual params [] scope cc cda) f s.heap.objs.size) rfl
  refine PySem.ks_wpAt_execs_cons (PySem.ks_wpAt_Expr_any (PySem.ks_wpAt_MethodCall (pl := pl) ?_ he) (hi := I.quiet))
  refine PySem.ks_wpAt_super_base (f := f) (cc := cda) T.sSup T.sCls (by decide) rfl (K1 _ _ lk) rfl hp rfl (K1 _ _ hcode) rfl hv2 hfile T.top ?_
  have hD : h₁.get? C = some _ := K1 _ _ hC
  obtain ⟨mb, b1, b2⟩ := I.mod.blt
  refine PySem.W.ks_loadName_global S.kind T.sSup (Calls.loadGlobal_builtin (I.mod.glob.keeps I.bk) T.noS (b1.keeps I.bk) ((b2 _ (by decide)).trans (by rfl)) ⟨rfl, ?_⟩)
  refine wpAny_loadName_free S.kind T.sCls rfl ⟨_, K1 _ _ hcell, rfl⟩ ?_
  refine wpAny_loadName_local S.kind hna hns hv ?_
  refine PySem.ks_wpAny_isType_cls hD rfl ⟨rfl, ?_⟩
  refine PySem.ks_wpAny_call_super hD rfl hox rfl (fun c e => nomatch e) (PySem.W.looks_mroIn K1 T.mro) (fun h2 e2 kp2 => ?_)
  have I2 := I.kept (t' := s.toks + (ps.zip (Value.ref a :: us')).length) kp2
  have K2 : K.In h2 := I2.kIn
  have hcl : PySem.W.clsIn K C = some { name := nm, bases := bs, mro := .ref C :: bm, ns := Nn, qualname := q, hasDict := true, slotNames := sn, subclasses := sub, abstract := ab, collection := col, hasDel := false } := by unfold PySem.W.clsIn; rw [hC] <;> rfl
  have hsup := T.sup
  unfold PySem.W.ks_superIn at hsup
  rw [hcl] at hsup
  obtain ⟨t2, ho2⟩ := exo_at I2.hok ha
  have IA : PySem.W.InstAt h2 a _ C none := ⟨ho2, rfl, rfl, trivial⟩
  refine PySem.W.kxs_getMethod PySem.W.kxs_ValueError e2 (PySem.W.looks_opaque K2 T.opq) (l₀ := .ref C :: bm) (fun A Q E s k q => wpAny_bind ((PySem.W.looks_clsIn K2 hcl) A _ E s k (wpAny_pure q))) rfl K2 hsup (IA.type.andThen (PySem.W.looks_subIn K2 T.sub)) (PySem.W.ks_ne K2 IA hcl) (by decide) ?_
  have kp3 : ∀ b o, h2.get? b = some o → (h2.push (PySem.W.kxs_mw "ValueError.__init__" a)).get? b = some o := fun b o e => Heap.get?_push_of_some _ e
  have I3 := I2.kept (t' := s.toks + (ps.zip (Value.ref a :: us')).length + 1) kp3
  have hu : (h2.push (PySem.W.kxs_mw "ValueError.__init__" a)).get? h2.objs.size = some (PySem.W.kxs_mw "ValueError.__init__" a) := Heap.get?_push_at rfl rfl
  generalize h2.push (PySem.W.kxs_mw "ValueError.__init__" a) = h3 at I3 hu ⊢
  generalize h2.objs.size = u at hu ⊢
  refine PySem.W.kxs_callWith (i := "ValueError.__init__") (x := a) rfl (Calls.evalArgs_plain (Calls.spliced_cons (Calls.Constant_str (k := j) (pos := p3) (Calls.spliced_nil ⟨hu, ?_⟩))))
  have I4 := I3.tok (s.toks + (ps.zip (Value.ref a :: us')).length + 1 + 1)
  have K4 : K.In h3 := I4.kIn
  obtain ⟨t4, ho4⟩ := exo_at I4.hok ha
  refine wpAny_call (codeAny_of_tree ?_)
  show wpAny _ _ (callAny (.ref u) ⟨_, []⟩) _ _ _
  simp only [callAny]
  refine wpAny_bind (wpAny_load hu ?_)
  simp only [PySem.W.kxs_mw, show (Value.type "method-wrapper" == Value.type "method" || Value.type "method-wrapper" == Value.type "builtin_function_or_method" || Value.type "method-wrapper" == Value.type "method-wrapper") = true by decide, if_true]
  refine PySem.W.KFB.if_so (by decide) ?_
  refine wpAny_bind (PySem.W.check_bound_init F.excBase_ValueError.toExcCallFacts (K4 _ _ hC) ho4 rfl ?_)
  refine wpAny_bind (wpAny_pure (wpAny_pure ?_))
  refine ⟨plainId_quiet F.excBase_ValueError.init.plain _, codeAny_builtin F.excBase_ValueError.initEntry ?_⟩
  refine PySem.W.exc_init_tree (cls := .ref C) (t0 := t4) (dv := none) (c2 := .none) (c3 := .none) (b4 := .bool false) ho4 (by show 1 ≤ sizeLine; rw [sizeLine_eq]; decide) (fun h5 kp5 hx5 _ => ?_)
  have J := I4.write (t' := s.toks + (ps.zip (Value.ref a :: us')).length + 1 + 1) (x := a) (e := a) (o := exo a C none) (by rw [ha]; exact True.intro) (.inl rfl) kp5 ⟨_, hx5⟩ (exo_ok hx5)
  have eu : upd H a (exo a C none) = H := by
    funext b
    by_cases hb : b = a
    · rw [hb, upd_same, ha]
    · rw [upd_ne hb]
  rw [eu] at J
  refine PySem.wpAt_of_wpAny (wpAny_mono (ht.run [] _ _ H _ J hq) (fun fl s' hs => ?_) fun e s' hs => hs)
  cases fl with
  | ret u =>
    obtain ⟨v, σ', H', J', rv, q⟩ := hs
    exact ⟨v, H', J'.os, J'.bare, J'.base, J'.hok, rv, q⟩
  | next =>
    obtain ⟨σ', H', J', q⟩ := hs
    exact ⟨.non, H', J'.os, J'.bare, J'.base, J'.hok, rfl, q⟩
  | brk =>
    obtain ⟨_, _, _, q⟩ := hs
    exact False.elim q
  | cont =>
    obtain ⟨_, _, _, q⟩ := hs
    exact False.elim q
end L3
namespace L3
open PySem PySem.Spec PyProof.Rows L2
/-- one field, two fields, none -/
def spErr1 (C : Addr) (f : Str) : Sp := fun vs H Q _ => ∃ a v, vs = [.ref a, v] ∧ H a = some (exo a C none) ∧ ∀ dx, H dx = none → dx ≠ a → Q .non (upd (upd H dx (exd dx [(f, v)])) a (exo a C (some dx)))
def spErr2 (C : Addr) (f g : Str) : Sp := fun vs H Q _ => ∃ a v y, vs = [.ref a, v, y] ∧ H a = some (exo a C none) ∧ ∀ dx, H dx = none → dx ≠ a → Q .non (upd (upd (upd H dx (exd dx [(f, v)])) a (exo a C (some dx))) dx (exd dx [(g, y), (f, v)]))
abbrev stSup (msg : Str) (j : Nat) (p0 p1 p2 p3 p4 p5 : Pos) : Stmt := .Expr (.Call (.Attribute (.Call (.Name "super" p0) [] [] p1) "__init__" p2) [.Constant (.str msg) j p3] [] p4) p5
abbrev stFld (f x : Str) (q1 q2 q3 q4 : Pos) : Stmt := .Assign [.Attribute (.Name "self" q1) f q2] (.Name x q3) q4
section
variable {P : Program} {w : World} {K : PySem.W.Frag} {mg : Str → Option Value} {base : Heap} {CX : CXT} {C f cda cc : Addr} {qual msg x y g1 g2 : Str} {params : Arguments} {scope : Scope} {kV doc pm ct oc : Value} {an od : Option Addr} {osl : Array (Option Value)}
  {p0 p1 p2 p3 p4 p5 q1 q2 q3 q4 q5 q6 q7 q8 : Pos} {j : Nat} {ar : Arg} {body : List Stmt}
theorem okErr1 (hbd : body = [stSup msg j p0 p1 p2 p3 p4 p5, stFld g1 x q1 q2 q3 q4])
    (lk : K.lookup f = some ⟨oc, od, .func (PySem.W.fnX "__init__" qual params body scope [("__class__", cc)] .none kV doc pm an (.ref cda) ct), osl⟩) (hcd : PySem.W.codeIn K (.ref cda) qual = true)
    (T : SupF P K mg C f cda cc scope) (S : NdefX.NScope ["self", x, "__class__"] ["self", x] ["__class__"] scope) (hp : (params.posonlyargs ++ params.args).head? = some ar) (har : ar.arg = "self")
    (hev : ∀ env : Env, env.scope = scope → ∃ pl, eval (.Call (.Attribute (.Call (.Name "super" p0) [] [] p1) "__init__" p2) [.Constant (.str msg) j p3] [] p4) env = (do
      let ov ← attributeBase (.Call (.Name "super" p0) [] [] p1) "__init__" env (eval (.Call (.Name "super" p0) [] [] p1) env)
      standAt p2.atName
      let (f, first) ← holding [ov] (getMethod ov "__init__" pl)
      callWith p4 f first (backTo p4 (starEach [.Constant (.str msg) j p3] env)) []))
    (hx : (x == ("__debug__" : Str)) = false) (hx2 : (x == ("__classdict__" : Str)) = false) (n1 : PySem.W.findIn K (.ref C) g1 = some none) (hs : ∀ env : Env, env.scope = scope → swapsWith (.Name x q3) (some (.Attribute (.Name "self" q1) g1 q2)) q4.line env = pure false) :
    FnOk P w K mg base CX 1 f (PySem.W.fnX "__init__" qual params body scope [("__class__", cc)] .none kV doc pm an (.ref cda) ct) ["self", x] (spErr1 C g1) := by
  refine okSup hbd lk hcd T S hp (by rw [har]; rfl) (by rw [har]; rfl) (by rw [har]; exact S.par _ (by simp)) hev (fun vs H Q E h => ?_) (fun A outer s H vs Q E hr h => ?_)
  · obtain ⟨a, v, rfl, _⟩ := h; rfl
  · obtain ⟨a, v, rfl, ha, k⟩ := h
    refine ⟨a, _, rfl, ha, _, pss_one (ps_ost (pe_var (i := 0) rfl (.inl (S.par _ (by simp)))) (pe_var (i := 1) rfl (.inl (S.par _ (by simp))) hx hx2) (hs _ rfl)), ?_⟩
    refine ⟨v, rfl, .ref a, rfl, a, C, rfl, T.oex, n1, .inl ⟨ha, fun dx h1 h2 => ?_⟩⟩
    exact k dx h1 h2
theorem okErr2 (hbd : body = [stSup msg j p0 p1 p2 p3 p4 p5, stFld g1 x q1 q2 q3 q4, stFld g2 y q5 q6 q7 q8])
    (lk : K.lookup f = some ⟨oc, od, .func (PySem.W.fnX "__init__" qual params body scope [("__class__", cc)] .none kV doc pm an (.ref cda) ct), osl⟩) (hcd : PySem.W.codeIn K (.ref cda) qual = true)
    (T : SupF P K mg C f cda cc scope) (S : NdefX.NScope ["self", x, y, "__class__"] ["self", x, y] ["__class__"] scope) (hp : (params.posonlyargs ++ params.args).head? = some ar) (har : ar.arg = "self")
    (hev : ∀ env : Env, env.scope = scope → ∃ pl, eval (.Call (.Attribute (.Call (.Name "super" p0) [] [] p1) "__init__" p2) [.Constant (.str msg) j p3] [] p4) env = (do
      let ov ← attributeBase (.Call (.Name "super" p0) [] [] p1) "__init__" env (eval (.Call (.Name "super" p0) [] [] p1) env)
      standAt p2.atName
      let (f, first) ← holding [ov] (getMethod ov "__init__" pl)
      callWith p4 f first (backTo p4 (starEach [.Constant (.str msg) j p3] env)) []))
    (hx : (x == ("__debug__" : Str)) = false) (hx2 : (x == ("__classdict__" : Str)) = false) (hy : (y == ("__debug__" : Str)) = false) (hy2 : (y == ("__classdict__" : Str)) = false)
    (n1 : PySem.W.findIn K (.ref C) g1 = some none) (n2 : PySem.W.findIn K (.ref C) g2 = some none)
    (hs : ∀ env : Env, env.scope = scope → swapsWith (.Name x q3) (some (.Attribute (.Name "self" q1) g1 q2)) q4.line env = pure false) (hs2 : ∀ env : Env, env.scope = scope → swapsWith (.Name y q7) (some (.Attribute (.Name "self" q5) g2 q6)) q8.line env = pure false) :
    FnOk P w K mg base CX 1 f (PySem.W.fnX "__init__" qual params body scope [("__class__", cc)] .none kV doc pm an (.ref cda) ct) ["self", x, y] (spErr2 C g1 g2) := by
  refine okSup hbd lk hcd T S hp (by rw [har]; rfl) (by rw [har]; rfl) (by rw [har]; exact S.par _ (by simp)) hev (fun vs H Q E h => ?_) (fun A outer s H vs Q E hr h => ?_)
  · obtain ⟨a, v, y, rfl, _⟩ := h; rfl
  · obtain ⟨a, v, y', rfl, ha, k⟩ := h
    refine ⟨a, _, rfl, ha, _, pss_cons (ps_ost (pe_var (i := 0) rfl (.inl (S.par _ (by simp)))) (pe_var (i := 1) rfl (.inl (S.par _ (by simp))) hx hx2) (hs _ rfl))
      (pss_one (ps_ost (pe_var (i := 0) rfl (.inl (S.par _ (by simp)))) (pe_var (i := 2) rfl (.inl (S.par _ (by simp))) hy hy2) (hs2 _ rfl))), ?_⟩
    refine ⟨v, rfl, .ref a, rfl, a, C, rfl, T.oex, n1, .inl ⟨ha, fun dx h1 h2 => ?_⟩⟩
    refine ⟨y', rfl, .ref a, rfl, a, C, rfl, T.oex, n2, .inr ⟨dx, [(g1, v)], upd_same, ?_, (show 1 ≤ 900 by decide), ?_⟩⟩
    · rw [upd_ne h2]; exact upd_same
    · exact k dx h1 h2
end
end L3
end
section
namespace L3
open PySem PySem.Spec PyProof.Rows L2
/-- at a: an error of the class cls, its dict at d -/
def ExV (a : Addr) (cls : Value) (d : Option Addr) : HO := .ext fun h => ∃ oe, h.get? a = some oe ∧ Zc cls d oe ∧ ∃ vs, oe.data = .fields vs
theorem exV_ok {P : Program} {w : World} {H : Hp} {h : Heap} {a : Addr} {cls : Value} {d : Option Addr} {oe : Obj} (e : h.get? a = some oe) (z : Zc cls d oe) (f : ∃ vs, oe.data = .fields vs) : ObjOk P w H h a (ExV a cls d) :=
  ⟨⟨oe, e, z, f⟩, ⟨_, e⟩, fun _ _ ⟨o, q, z, f⟩ k => ⟨o, k _ q, z, f⟩⟩
section
variable {X : Cx} {pins : List (Addr × Obj)} {σ : L2.St} {H : Hp} {s : Shared}
/-- an object that was not there at the entry may be told from now on -/
theorem Inv.track {a : Addr} {o : HO} (I : Inv X pins σ H s) (na : H a = none) (n0 : X.s_0.heap.get? a = none) (nL : a ≠ X.env.locals) (nC : ∀ x c, X.env.cells.lookup x = some c → c ≠ a) (nP : ∀ p ∈ X.pn ++ pins, p.1 ≠ a) (new : ObjOk X.prog X.w (upd H a o) s.heap a o) :
    Inv X pins σ (upd H a o) s := by
  have ne0 : ∀ b u, X.s_0.heap.get? b = some u → b ≠ a := fun b u e z => by rw [z, n0] at e; cases e
  refine ⟨I.ok, I.os, I.bare, ⟨I.base.keep, I.base.slot, fun b u e n hx => ?_, I.base.there, fun b xs e => ?_, fun b u v e => ?_, fun b ps e => ?_⟩, I.loc, I.cell, ?_, fun x c e => ?_, fun p hp => ?_, I.hok.laidN (fun _ _ q => q) na new, I.len⟩
  · rw [upd_ne (ne0 b u e)]; exact I.base.free b u e n hx
  · have q := I.base.tups b xs e
    rw [upd_ne (ne_of_none q na)]; exact q
  · have q := I.base.frzs b u v e
    rw [upd_ne (ne_of_none q na)]; exact q
  · obtain ⟨m, q⟩ := I.base.tbls b ps e
    exact ⟨m, by rw [upd_ne (ne_of_none q na)]; exact q⟩
  · rw [upd_ne (Ne.symm nL)]; exact I.free
  · rw [upd_ne (nC x c e)]; exact I.freeC x c e
  · obtain ⟨h1, h2, h3, h4, h5⟩ := I.pin p hp
    exact ⟨h1, by rw [upd_ne (nP p hp)]; exact h2, h3, h4, h5⟩
end
/-- what 'except x as n: m = n' wishes: the error stays in slot m, told behind the suite -/
def wNote (K : PySem.W.Frag) (n : Nat) (c : Value) (i m : Nat) (Wout : WX) (D : Ends) : WX := fun cls d σ H =>
  ∃ b, PySem.W.exmOne K cls c = some b ∧ (b = true → σ.length = n → ∀ a, H a = none → D.nx (((σ.set i (some (.ref a))).set m (some (.ref a))).set i none) (upd H a (ExV a cls d))) ∧ (b = false → Wout cls d σ H)
section
variable {X : Cx} {x n mN : Str} {c : Value} {i m : Nat} {body : List Stmt} {np pos pos' p1 p2 p3 : Pos} {tb : WX → TS} {Wout : WX}
theorem ps_try_note (hs : X.stack = X.env :: X.outer) (hf : X.env.frame = some X.env.locals) (hex : X.ex = []) (hN : X.N.Nodup) (hi : X.N[i]? = some n) (hln : X.env.kindOf n = some .local) (hm : X.N[m]? = some mN) (hlm : X.env.kindOf mN = some .local) (hc : Names X x c) (tk : Takes X Wout)
    (hsw : swapsWith (.Name n p2) (some (.Name mN p1)) p3.line X.env = pure false) (hnd : (n == ("__debug__" : Str)) = false) (hnc : (n == ("__classdict__" : Str)) = false)
    (hb : ∀ (W : WX) (pn : List (Addr × Obj)) (xe : Value → Shared → Prop), Takes (X.tr pn xe) W → PassesOwn (model X.prog X.w) X.A X.env xe → PSs (X.tr pn xe) body (tb W)) :
    PS X (.Try body [.ExceptHandler (some (.Name x np)) (some n) [.Assign [.Name mN p1] (.Name n p2) p3] pos'] [] [] pos) (fun D σ H => tb (wNote X.K X.N.length c i m Wout D) D σ H) := by
  refine ⟨fun pins s σ H D I h => ?_⟩
  have ok := I.ok
  have frE : X.A.frames = some (X.env :: X.outer) := by rw [ok.frames, hs]
  refine wpAny_Try_except ?_
  refine wpAny_mono ((hb (wNote X.K X.N.length c i m Wout D) (X.pn ++ pins) (fun e s1 => wpAny (model X.prog X.w) X.A (noteFrame e X.env) (fun _ s2 => wpAny (model X.prog X.w) X.A (setFlight e none) (fun _ s3 =>
    wpAny (model X.prog X.w) X.A (handleBy e X.env [.ExceptHandler (some (.Name x np)) (some n) [.Assign [.Name mN p1] (.Name n p2) p3] pos']) (SP X pins D) X.xe s3) X.xe s2) X.xe s1) (fun u s' xx => ?_) PassesOwn.looking).run [] s σ H D (I.toTry _) h) (fun f s1 hsp => ?_) (fun e s1 he => he)
  · obtain ⟨a, B, sI, pins', σ', H', cls, d, rfl, J', nb, up, sky, na, os, ag, b, hb1, hyes, hno⟩ := xx
    have J : Inv X pins σ' H' sI := J'.ofTry ok
    have skyE : Sky B (X.env :: X.outer) a (Zc cls d) X.env.locals s'.heap := by rw [← hs]; exact sky
    show wpAny (model X.prog X.w) X.A (noteFrame (.ref a) X.env) _ _ _
    refine Sky.land Zc.steady frE hf skyE fun h3 fl3 up3 => ?_
    have J3 : Inv X pins σ' H' { s' with heap := h3 } := J.landed nb fl3.1 (up.trans up3) os ag
    obtain ⟨oe3, vs3, he3, hz3, hd3⟩ := fl3.there
    have far : ∀ {h : Heap} {o : Obj} {vs : Array Value}, h.FunFrames B (X.env :: X.outer) → h.get? a = some o → o.data = .fields vs → a ∉ frs (X.env :: X.outer) := fun {h o vs} ff e dd hm => by
      obtain ⟨_, o', e', hnf⟩ := ff.mem hm
      rw [e] at e'; cases e'
      exact hnf _ dd
    have nfr := far fl3.2.2.1 he3 hd3
    have nL : a ≠ X.env.locals := fun z => nfr (List.mem_filterMap.mpr ⟨X.env, List.mem_cons_self, by rw [hf, z]⟩)
    have nF : a ∉ X.fs := fun hm => by
      obtain ⟨e, he, q⟩ := List.mem_filterMap.mp hm
      exact nfr (List.mem_filterMap.mpr ⟨e, List.mem_cons_of_mem _ he, q⟩)
    have nI : sI.heap.get? a = none := by
      cases e : sI.heap.get? a with
      | none => rfl
      | some o =>
        have q := nb a o e (by rw [hs]; exact nfr)
        rw [fl3.2.1] at q; cases q
    have n0 : X.s_0.heap.get? a = none := by
      cases e : X.s_0.heap.get? a with
      | none => rfl
      | some o =>
        obtain ⟨o', q⟩ := J.base.there a o e (by rw [hex]; exact fun z => nomatch z)
        rw [nI] at q; cases q
    have nC : ∀ y c, X.env.cells.lookup y = some c → c ≠ a := fun y c e z => by
      obtain ⟨v, o, q, _⟩ := J.cell y c e
      rw [z, nI] at q; cases q
    have nP : ∀ p ∈ X.pn ++ pins, p.1 ≠ a := fun p hp z => by
      have q := (J.pin p hp).1
      rw [z, nI] at q; cases q
    have S3 := J3.suite he3 hd3 na nL nF
    refine wpAny_handleBy_cons (codeAny_handlers_test ?_) (by intro q; cases q)
    have LT : PySem.W.Looks (model X.prog X.w) h3 (typeOf (.ref a)) cls := fun A Q E s k q => wpAny_typeOf_ref (k _ _ he3) (by rw [hz3.1]; exact q)
    have LM := PySem.W.exm_one (M := model X.prog X.w) (J3.kIn) LT hb1
    have test : ∀ {Q : Value → Shared → Prop} {E : Value → Shared → Prop}, Q c { s' with heap := h3 } → wpAny (model X.prog X.w) (X.A.mark (some (.ref a))) (eval (.Name x np) X.env) Q E { s' with heap := h3 } := fun {Q E} q => by
      obtain ⟨hg, hdbg, hm | ⟨hm, hv, hnn⟩⟩ := hc
      · exact ld_glob (X := X.suite a ((a, oe3) :: (X.pn ++ pins))) S3 hg hm q hdbg
      · exact ld_blt (X := X.suite a ((a, oe3) :: (X.pn ++ pins))) S3 hg hm hv q hnn hdbg
    refine test (LM.here ?_)
    cases b with
    | true =>
      refine codeAny_handlers_suite_as ?_
      refine HandSPX.lands_againZ fl3 fun h4 fl4 up4 => ?_
      have J4 : Inv X pins σ' H' { s' with heap := h4 } := J.landed nb fl4.1 ((up.trans up3).trans up4) os ag
      obtain ⟨oe4, vs4, he4, hz4, hd4⟩ := fl4.there
      have S4 := J4.suite he4 hd4 na nL nF
      refine store_ok (X := X.suite a ((a, oe4) :: (X.pn ++ pins))) (v := .ref a) S4 hN hi (.inl hln) rfl (fun s5 S5 => ?_) (.inr hln)
      have suiteP : PSs (X.suite a ((a, oe4) :: (X.pn ++ pins))) [.Assign [.Name mN p1] (.Name n p2) p3] (tAsg (tVar i) (gName m)) := pss_one (ps_set (i := m) hN hm (.inl hlm) (pe_var (i := i) hi (.inl hln) hnd hnc) hsw (.inr hlm))
      have hlt : i < σ'.length := by
        rw [J.len]
        exact (List.getElem?_eq_some_iff.mp hi).1
      refine wpAny_mono (suiteP.run [] s5 _ H' { nx := fun σ6 H6 => σ6 = (σ'.set i (some (.ref a))).set m (some (.ref a)) ∧ H6 = H', rt := fun _ _ => False, bk := fun _ _ => False, ct := fun _ _ => False } S5 ⟨.ref a, List.getElem?_set_self hlt, rfl, rfl⟩) (fun f s6 hsp => ?_) (fun _ _ z => False.elim z)
      cases f with
      | next =>
        obtain ⟨σ6, H6, S6, e6, e7⟩ := hsp
        subst e6
        subst e7
        have pin6 := S6.pin (a, oe4) (List.mem_append_left _ List.mem_cons_self)
        have U6 := S6.unsuite ok
        have J6 : Inv X ((a, oe4) :: pins) _ H6 s6 := U6.pins_of fun p hp => (List.mem_cons.mp hp).elim (fun z => by rw [z]; exact pin6) fun z => U6.pin p (List.mem_append_right _ z)
        refine gone_ok J6 hN hi hln fun s7 J7 => ?_
        have a7 := (J7.pin (a, oe4) (List.mem_append_right _ List.mem_cons_self)).1
        have J8 : Inv X pins _ H6 s7 := J7.pins_of fun p hp => J7.pin p (List.mem_append_right _ (List.mem_cons_of_mem _ hp))
        exact ⟨_, _, Inv.track J8 na n0 nL nC nP (exV_ok a7 hz4 ⟨_, hd4⟩), hyes rfl J.len a na⟩
      | brk =>
        obtain ⟨_, _, _, z⟩ := hsp
        exact False.elim z
      | cont =>
        obtain ⟨_, _, _, z⟩ := hsp
        exact False.elim z
      | ret u =>
        obtain ⟨_, _, _, _, _, z⟩ := hsp
        exact False.elim z
    | false =>
      show wpAny _ X.A (handleBy (.ref a) X.env []) _ _ _
      refine wpAny_handleBy_nil ?_
      obtain ⟨k1, k2, k3, oe, vs, Tt, oT, tq, he, hz, hd, h1, hr⟩ := id fl3
      unfold PySem.passOn
      refine wpAny_bind (wpAny_field he hd h1 ?_)
      rw [if_neg (show ¬ ((Value.ref Tt == Value.none) = true) from by simp)]
      have fin : wpAny (model X.prog X.w) X.A (setFlight (.ref a) X.env.frame) (fun _ s4 => wpAny (model X.prog X.w) X.A (throw (.ref a) : Sem Flow) (SP X pins D) X.xe s4) X.xe { s' with heap := h3 } := by
        rw [hf]
        refine HandSPX.setFlight_upZ fl3 fun h4 hh4 up4 => wpAny_throw (tk _ _ ?_)
        exact ⟨a, B, sI, pins, σ', H', cls, d, rfl, J, nb, (up.trans up3).trans up4, .inr (.inr (by rw [hs]; exact hh4)), na, os, ag, hno rfl⟩
      first
        | exact wpAny_bind (wpAny_pure (wpAny_bind fin))
        | exact wpAny_bind fin
  · cases f with
    | next =>
      obtain ⟨σ', H', J', q⟩ := hsp
      exact wpAny_execs_nil ⟨σ', H', J'.ofTry ok, q⟩
    | brk =>
      obtain ⟨σ', H', J', q⟩ := hsp
      exact ⟨σ', H', J'.ofTry ok, q⟩
    | cont =>
      obtain ⟨σ', H', J', q⟩ := hsp
      exact ⟨σ', H', J'.ofTry ok, q⟩
    | ret u =>
      obtain ⟨v, σ', H', J', r, q⟩ := hsp
      exact ⟨v, σ', H', J'.ofTry ok, r, q⟩
end
end L3
namespace L3
open PySem PySem.Spec PySem.Calls PyProof.Rows PySem.W
section
variable {prog : Program} {w : World} {A : Around} {E : Value → Shared → Prop} {s : Shared} {K : Frag} {x D : Addr} {ox : Obj} {od : Option Obj}
/-- the class of an error that has its dict -/
theorem cls_exc {Q : Option Value → Shared → Prop} (C : L2.ExcC K D) (X : K.In s.heap) (I : InstAt s.heap x ox D od) (hf : findObj K D od "__class__" = some (.bind (.builtin "getset_descriptor.__get__") (.builtin "object.__class__")))
    (h : Q (some (.ref D)) { s with toks := s.toks + 1 }) : wpAny (model prog w) A (getAttr? (.ref x) "__class__") Q E s := by
  obtain ⟨hp, g, d, t, os⟩ := s
  have L0 := I.type (M := model prog w)
  have L1 := looks_findIn (M := model prog w) X C.hg
  have L2 := looks_findIn (M := model prog w) X C.hk
  have L4 := looks_find (M := model prog w) X I hf
  have sub : Looks (model prog w) hp (isInstance (.ref x) (.type "BaseException")) true := L0.andThen (looks_subIn X C.hs)
  have z0 : (false && onTheHeap (Value.builtin "BaseException.__getattribute__")) = false := rfl
  have z2 : (Value.builtin "BaseException.__getattribute__" == Value.builtin "object.__getattribute__") = false := by decide +kernel
  have z1 : (onTheHeap (Value.ref D) && Value.builtin "BaseException.__getattribute__" == Value.builtin "object.__getattribute__") = false := by rw [z2]; rfl
  unfold getAttr? getAttrBy? getAttrBy
  refine wpAny_bind (wpAny_mkText (wpAny_bind (wpAny_attempt (wpAny_holding (wpAny_bind (L0.at (wpAny_bind (L1.at ?_))))))))
  show wpAny _ _ (if (onTheHeap (Value.ref D) && Value.builtin "BaseException.__getattribute__" == Value.builtin "object.__getattribute__") = true then _ else _) _ _ _
  rw [z1, if_neg Bool.false_ne_true]
  unfold getAttrByItsOwn hookBefore
  refine wpAny_bind ?_
  rw [if_pos (show onTheHeap (Value.ref D) = true from rfl)]
  refine L2.at ?_
  refine wpAny_bind (wpAny_attempt (wpAny_holding ?_))
  unfold callGetattribute
  rw [z0, if_neg Bool.false_ne_true]
  unfold boundAndCalled
  rw [PySem.F.excAttr_ValueError.ga.bind (.ref x)]
  refine wpAny_bind (wpAny_pure ?_)
  show wpAny _ _ (call (.builtin "BaseException.__getattribute__") [.ref x, .str "__class__" t]) _ _ _
  refine wpAny_call (codeAny_call_builtin PySem.F.excAttr_ValueError.ga.plain PySem.F.entry_bexc_ga ?_)
  refine @check_slot (model prog w) _ _ ⟨hp, g, d, t + 1, os⟩ "BaseException.__getattribute__" "BaseException" "__getattribute__" (.ref x) [.str "__class__" t] [] _ (by decide +kernel) (by decide +kernel) sub (PySem.F.args_bexc_ga (.ref x) (.str "__class__" t)) ?_
  unfold Builtin.«object.__getattribute__»
  refine wpAny_bind (wpAny_of_eq (a := ((Value.ref x : Value), [Value.str "__class__" t])) (by first | rfl | (simp only [slotArgs]; rfl)) ?_)
  refine wpAny_bind (wpAny_pure (wpAny_bind (L0.at (wpAny_bind (L4.at ?_)))))
  show wpAny _ _ (holding [Value.builtin "object.__class__"] (call (.builtin "getset_descriptor.__get__") [.builtin "object.__class__", .ref x, .ref D]) >>= ret) _ _ _
  refine wpAny_bind (wpAny_holding (wpAny_call (class_get (s := ⟨hp, g, d, t + 1, os⟩) (ox := ox) (od := od) X I C.hm ?_)))
  refine wpAny_pure ?_
  show wpAny _ _ (handedOut (.ref D)) _ _ _
  rw [handedOut_of (v := .ref D) rfl]
  first
    | exact wpAny_pure (wpAny_pure h)
    | exact wpAny_pure h
    | exact wpAny_pure (wpAny_bind (wpAny_pure (wpAny_pure h)))
theorem kit_exc (C : L2.ExcC K D) : KitX K (.ref x) (.ref D) (fun h => ∃ ox o, InstAt h x ox D (some o)) where
  ty := fun _ _ _ ⟨_, _, I⟩ => I.type
  it := fun _ _ X _ => by
    obtain ⟨cdD, hcD, _⟩ := any_some C.hd
    unfold clsIn at hcD
    split at hcD
    · rename_i c' d' cd' sl' ho
      exact fun A' Q' E' s' k q => by
        unfold isType loadHead
        exact wpAny_bind (wpAny_loadPart (k _ _ (X _ _ ho)) (wpAny_pure q))
    · cases hcD
  ne := (handS_kitx_exc (x := x) (ox := default) C.hg C.hk C.hs C.hd C.ha C.hn C.ht C.hm).ne
  ca := fun X ⟨_, o, I⟩ k => cls_exc C X I (by
    obtain ⟨cd, hc, _⟩ := any_some C.hd
    unfold findObj
    rw [hc, Option.bind_some, C.ha, Option.bind_some]
    simp [C.hn, C.ht]) k
end
end L3
namespace L3
open PySem PySem.Spec PyProof.Rows L2
theorem exV_at {P : Program} {w : World} {H : Hp} {h : Heap} {a : Addr} {cls : Value} {d : Option Addr} (hok : HOk P w H h) (e : H a = some (ExV a cls d)) : ∃ oe, h.get? a = some oe ∧ Zc cls d oe ∧ ∃ vs, oe.data = .fields vs :=
  (show ObjOk P w H h a (ExV a cls d) from hok a _ e).1
theorem exV_inst {P : Program} {w : World} {H : Hp} {h : Heap} {a C d : Addr} {fs : List (Str × V)} (hok : HOk P w H h) (e : H a = some (ExV a (.ref C) (some d))) (ed : H d = some (.xd fs)) :
    ∃ oe od mA, PySem.W.InstAt h a oe C (some od) ∧ h.get? d = some od ∧ h.Ns1 d mA ∧ (∀ f, RelO (fs.lookup f) (mA f)) ∧ ∀ n, PySem.W.lookIn n od = some (mA n) := by
  obtain ⟨oe, e1, z, vs, e2⟩ := exV_at hok e
  obtain ⟨mA, hns, hr⟩ := (show ObjOk P w H h d (.xd fs) from hok d _ ed)
  obtain ⟨od, ho, hl⟩ := lookIn_ns hns
  exact ⟨oe, od, mA, ⟨e1, z.1, by unfold PySem.W.notCls; rw [e2] <;> rfl, by rw [z.2]; exact ho⟩, ho, hns, hr, hl⟩
/-- isinstance of a kept error -/
def rIsiX (K : PySem.W.Frag) : List V → Hp → VK → Prop := fun xs H Q => rIsiA K xs H Q ∨ ∃ (a C d : Addr) (c : V) (u : Value) (fs : List (Str × V)) (b : Bool), xs = [.ref a, c] ∧ ClsV c u ∧ H a = some (ExV a (.ref C) (some d)) ∧ H d = some (.xd fs) ∧ ExcC K C ∧ PySem.W.kitOne K (.ref C) u = some b ∧ Q (.bl b) H
theorem callIsiX {X : Cx} : CallR X (.builtin "isinstance") (rIsiX X.K) := by
  intro pins s σ H xs us Q I r h
  rcases h with h | ⟨a, C, d, c, u, fs, b, rfl, k, ea, ed, T, e, q⟩
  · exact callIsi pins s σ H xs us Q I r h
  · obtain ⟨u1, u2, rfl, r1, r2⟩ := vals2 r
    have e2 := k.eq r2
    subst e2
    cases (show u1 = Value.ref a from r1)
    obtain ⟨oe, od, mA, J, _⟩ := exV_inst I.hok ea ed
    exact PySem.W.kia_one (kit_exc T) I.kIn ⟨oe, od, J⟩ e (fun z => nomatch z) fun tk => ⟨.bl b, H, I.tok tk, rfl, q⟩
/-- a field of a kept error -/
def tXfV (K : PySem.W.Frag) (n : Str) (te : TE) : TE := fun σ H Q => te σ H fun x H1 => ∃ (a C d : Addr) (fs : List (Str × V)) (v : V), x = .ref a ∧ H1 a = some (ExV a (.ref C) (some d)) ∧ H1 d = some (.xd fs) ∧ XfC K C ∧ PySem.W.findIn K (.ref C) n = some none ∧ fs.lookup n = some v ∧ Q v H1
theorem pe_xfV {X : Cx} {e : Expr} {te : TE} {pos : Pos} {n : Str} (he : PE X e te) (hb : attributeBase e n X.env (eval e X.env) = eval e X.env := by rfl) : PE X (.Attribute e n pos) (tXfV X.K n te) := by
  refine ⟨fun pins s σ H Q I h => ?_⟩
  refine attr_of hb (thn (he.run pins s σ H _ I h) fun u s1 hh => ?_)
  obtain ⟨x, H1, I1, rx, a, C, d, fs, v, rfl, ea, ed, T, hno, l, q⟩ := hh
  obtain rfl : u = Value.ref a := rx
  obtain ⟨oe, od, mA, J, _, _, hr, hl⟩ := exV_inst I1.hok ea ed
  obtain ⟨u, hu, ru⟩ := RelO.some_of (v := v) (o := mA n) (by rw [← l]; exact hr n)
  exact HandSPX.exc_get I1.kIn J T.ga T.gg T.exC (PySem.W.findObj_own T.hdC hno rfl (by rw [hl, hu])) (handed_of ru) ⟨v, H1, I1.tok _, ru, q⟩
end L3
end
section
namespace L3
open PySem PySem.Spec PySem.Calls PyProof.Rows PySem.W
end L3
namespace L3
open PySem PySem.Spec PySem.Calls PyProof.Rows PySem.W
end L3
end
section
namespace L3
open PySem PySem.Spec PyProof.Rows L2
section
variable {X : Cx} {CX : CXT} {k : Nat} {C f g : Addr} {fd fd' : FuncData} {ps : List Str} {sp : Sp} {E : XK} {op : Operator}
theorem rel_back {Q : Value → Shared → Prop} {v : V} {u : Value} {s : Shared} (r : RelV v u) (h : Q u s) : PySem.W.CmpBack Q u s := by
  cases u <;> first | exact h | skip
  all_goals (cases v <;> first | (exact False.elim r) | (obtain ⟨_, z⟩ := r; cases z; done) | (obtain ⟨z, _⟩ := r; cases z; done) | (cases r; done))
theorem ins_inst {P : Program} {w : World} {H : Hp} {h : Heap} {a C dx : Addr} {fs : List (Str × V)} (hok : HOk P w H h) (e : H a = some (.ins C dx fs)) : ∃ od, PySem.W.InstAt h a (PySem.W.instObj C dx) C (some od) := by
  obtain ⟨h1, _, h3, h4, mA, hns, _⟩ := (show ObjOk P w H h a (.ins C dx fs) from hok a _ e)
  obtain ⟨od, ho, _⟩ := lookIn_ns hns
  exact ⟨od, h4, rfl, rfl, ho⟩
/-- an operator of two values, its number part -/
def OpR1 (X : Cx) (op : Operator) (r : R2) : Prop := ∀ (pins : List (Addr × Obj)) (s : Shared) (σ : L2.St) (H : Hp) (x y : V) (v u : Value) (Q : VK), Inv X pins σ H s → RelV x v → RelV y u → r x y H Q →
  wpAny (model X.prog X.w) X.A (binaryOp1 op.info.2 v u) (fun r s' => ∃ z, r = some z ∧ EP X pins σ Q z s') X.xe s
theorem OpR1.or {r r' : R2} (h : OpR1 X op r) (h' : OpR1 X op r') : OpR1 X op (fun x y H Q => r x y H Q ∨ r' x y H Q) := fun pins s σ H x y v u Q I rx ry q => q.elim (h pins s σ H x y v u Q I rx ry) (h' pins s σ H x y v u Q I rx ry)
end
end L3
namespace L3
open PySem PySem.Spec PySem.Calls PyProof.Rows PySem.W
end L3
namespace L3
open PySem PySem.Spec PyProof.Rows L2
end L3
namespace L3
open PySem PySem.Spec PyProof.Rows L2
end L3
end
section
namespace L3
open PySem PySem.Spec PyProof.Rows L2 LamX
section
variable {P : Program} {w : World} {K : PySem.W.Frag} {mg : Str → Option Value} {base : Heap} {CX : CXT} {x qual : Str} {f : Addr} {fd : FuncData} {N ps : List Str} {k : Nat} {sp : Sp}
theorem funO {st : Stmt} (F : L2.Fun K x qual st f fd) (S : FnScope N ps (defScope st)) (len : ∀ vs H Q E, sp vs H Q E → vs.length = ps.length)
    (body : ∀ (cd : Value) (A : Around) (fr : List Env) (s : Shared) (H : Hp) (vs : List V) (Q : VK) (E : XK), Room k (A.deeper (envOfC qual (defScope st) s.heap.objs.size f cd)) → sp vs H Q E →
      ∃ t, PSs (cxOf CX P w K mg base N qual (defScope st) f cd A fr s H E) (defBody st) t ∧ t { nx := fun _ H' => Q .non H', rt := Q } (L2.start N vs) H) :
    FnOk P w K mg base CX (k + 1) f fd ps sp := by
  obtain ⟨oc, od, kV, doc, pm, an, cd, ct, sl, rfl, lk, hcd⟩ := F.ex
  exact ⟨len, fun A fr s H as us vs Q E hr e0 hb r h => LamX.run_ofS lk hcd S hr e0 hb r (len _ _ _ _ h) fun hr' => body cd A fr s H vs Q E hr' h⟩
/-- a def of the module, called by its name -/
structure FnO (P : Program) (w : World) (K : PySem.W.Frag) (mg : Str → Option Value) (base : Heap) (CX : CXT) (k : Nat) (x : Str) (ps : List Str) (sp : Sp) : Prop where
  ex : ∃ (f : Addr) (fd : FuncData), FnOk P w K mg base CX k f fd ps sp ∧ mg x = some (.ref f) ∧ PySem.W.keepIn K (.ref f) = true ∧ L2.Binds K fd ps []
end
section
variable {X : Cx} {CX : CXT} {k : Nat} {ps : List Str} {sp : Sp} {E : XK} {x : Str} {p pos : Pos} {e : Expr} {es : List Expr} {t : TA}
theorem pe_o {j : Nat} (c : FnO X.prog X.w X.K X.mg X.base CX k x ps sp) (hr : Room j X.A) (hx : Passes CX X E) (ha : PA X (e :: es) t) (hk : k ≤ j := by decide) (gl : Gl X x := by rfl)
    (hdb : (x == ("__debug__" : Str)) = false := by decide) (he : starEach (e :: es) X.env = (false, eval e X.env) :: starEach es X.env := by rfl) (hpl : (backTo pos (starEach es X.env)).any (·.1) = false := by rfl) :
    PE X (.Call (.Name x p) (e :: es) [] pos) (tCall sp [] E t) := by
  obtain ⟨f, fd, F, m, kp, b⟩ := c.ex
  exact pe_call F (hr.mono hk) gl m kp b .nil hx ha hdb he hpl
/-- nothing leaves -/
theorem passF : Passes (L2.CX X.prog X.w) X (fun _ _ _ => False) := fun _ _ _ _ _ _ _ ⟨_, _, _, _, _, _, _, _, _, _, _, _, z⟩ => z.elim
theorem passT {W : WX} (tk : Takes X W) (hW : ∀ cls d σ H, E cls d H → W cls d σ H) : Passes (L2.CX X.prog X.w) X E := passes_call tk hW
end
structure Er1 (P : Program) (w : World) (K : PySem.W.Frag) (mg : Str → Option Value) (base : Heap) (x : Str) (C : Addr) (g : Str) : Prop where
  oex : OexC K C
  m : mg x = some (.ref C)
  ex : ∃ (f : Addr) (fd : FuncData) (y : Str), PySem.W.findIn K (.ref C) "__init__" = some (some (.ref f)) ∧ PySem.W.typeIn K (.ref f) = some (.type "function") ∧ FnOk P w K mg base CX0 1 f fd ["self", y] (spErr1 C g) ∧ L2.Binds K fd ["self", y] []
def Rz (C : Addr) (g : Str) (v : V) (H : Hp) (E : XK) : Prop := ∀ d H', H d = none → Ex H H' → H' d = some (.xd [(g, v)]) → E (.ref C) (some d) H'
def rMk1 (C : Addr) (g : Str) (vs : List V) (H1 : Hp) (E : XK) : Prop := vs.length ≤ 1000 ∧ ∀ a, H1 a = none → spErr1 C g (.ref a :: (vs ++ [])) (upd H1 a (exo a C none))
  (fun v H2 => v = .non ∧ ∃ (d : Addr) (fs : List (Str × V)), H2 a = some (exo a C (some d)) ∧ H2 d = some (exd d fs) ∧ H1 d = none ∧ E (.ref C) (some d) (upd (del H2 a) d (.xd fs))) (fun _ _ _ => False)
def tRaise1 (C : Addr) (g : Str) (te : TE) (W : WX) : TS := fun _ σ H => te σ H fun v H1 => rMk1 C g [v] H1 (fun cls d H' => W cls d σ H')
theorem ps_raise1 {X : Cx} {W : WX} {x g : Str} {C : Addr} {j : Nat} {e : Expr} {te : TE} {p p1 pos : Pos} (c : Er1 X.prog X.w X.K X.mg X.base x C g) (hr : Room j X.A) (hc : X.calm = true) (tk : Takes X W) (ha : PA X [e] (tCons te tNil)) (hk : 2 ≤ j := by decide) (gl : Gl X x := by rfl)
    (hdb : (x == ("__debug__" : Str)) = false := by decide) (hst : starEach [e] X.env = (false, eval e X.env) :: starEach [] X.env := by rfl) :
    PS X (.Raise (some (.Call (.Name x p) [e] [] p1)) none pos) (tRaise1 C g te W) := by
  obtain ⟨f, fd, y, i1, i2, F, b⟩ := c.ex
  exact ps_raise (pos := pos) hc tk (pmk_oex (p := p) (pos := p1) c.oex i1 i2 F (hr.mono hk) b .nil pass0 gl c.m ha hdb hst)
theorem s_raise1 {C : Addr} {g : Str} {te : TE} {W : WX} {D : Ends} {σ : L2.St} {H : Hp} (h : te σ H fun v H1 => rMk1 C g [v] H1 (fun cls d H' => W cls d σ H')) : tRaise1 C g te W D σ H := h
theorem s_rz {C : Addr} {g : Str} {v : V} {H : Hp} {E : XK} (h : Rz C g v H E) : rMk1 C g [v] H E := by
  refine ⟨(show 1 ≤ 1000 by decide), fun a ha => ⟨a, v, rfl, upd_same, fun dx h1 h2 => ⟨rfl, dx, _, upd_same, ?_, ?_, h dx _ ?_ ?_ upd_same⟩⟩⟩
  · rw [upd_ne h2, upd_same]
  · rw [upd_ne h2] at h1; exact h1
  · rw [upd_ne h2] at h1; exact h1
  · intro b o e
    have n1 : b ≠ a := ne_of_none e ha
    have n2 : b ≠ dx := by
      rw [upd_ne h2] at h1
      exact ne_of_none e h1
    rw [upd_ne n2, del_ne n1, upd_ne n1, upd_ne n2, upd_ne n1]
    exact e
end L3
end
section
namespace L3
open PySem PySem.Spec PyProof.Rows L2 LamX
inductive Od (H : Hp) : V → Str → Prop
  | non : Od H .non (PyData.shown .none)
  | bl (b : Bool) : Od H (.bl b) (PyData.shown (.bool b))
  | str (z : Str) : z.length ≤ 100 → (PyData.str z).shown.length ≤ 1001 → Od H (.str z) (PyData.str z).shown
  | tup {p : Addr} {xs : List V} : H p = some (.tup xs) → xs.all fitF = true → (PyData.tuple (xs.map flatD)).shown.length ≤ 1000 → Od H (.ref p) (PyData.tuple (xs.map flatD)).shown
  | lst {p : Addr} {xs : List V} : H p = some (.lst xs) → xs.all fitF = true → xs.length ≤ 1000 → Od H (.ref p) (PyData.list (xs.map flatD)).shown
  | dic {p : Addr} : H p = some (.dK []) → Od H (.ref p) (PyData.dict []).shown
theorem Od.ex {H H' : Hp} {v : V} {t : Str} (h : Od H v t) (e : Ex H H') : Od H' v t := by
  cases h with
  | non => exact .non
  | bl b => exact .bl b
  | str z h1 h3 => exact .str z h1 h3
  | tup h1 h2 h3 => exact .tup (e _ _ h1) h2 h3
  | lst h1 h2 h3 => exact .lst (e _ _ h1) h2 h3
  | dic h1 => exact .dic (e _ _ h1)
abbrev odTys : List String := ["NoneType", "bool", "str", "tuple", "list", "dict"]
theorem Od.ty {K : PySem.W.Frag} {H : Hp} {v : V} {t : Str} (h : Od H v t) : (∃ b, v = .bl b) ∨ ∃ T, TyX K H v (.type T) ∧ T ∈ ["NoneType", "str", "tuple", "list", "dict"] := by
  cases h with
  | non => exact .inr ⟨_, .base .non, by simp⟩
  | bl b => exact .inl ⟨b, rfl⟩
  | str z _ _ => exact .inr ⟨_, .base (.str z), by simp⟩
  | tup h1 _ _ => exact .inr ⟨_, .base (.tup h1), by simp⟩
  | lst h1 _ _ => exact .inr ⟨_, .base (.lst h1), by simp⟩
  | dic h1 => exact .inr ⟨_, .base (.dK h1), by simp⟩
theorem Od.tyAll {K : PySem.W.Frag} {H : Hp} {v : V} {t : Str} (h : Od H v t) : ∃ T, TyX K H v (.type T) ∧ T ∈ odTys := by
  rcases h.ty (K := K) with ⟨b, rfl⟩ | ⟨T, h1, h2⟩
  · exact ⟨_, .base (.bl b), by simp⟩
  · exact ⟨T, h1, by simp only [List.mem_cons] at h2 ⊢; rcases h2 with h | h | h | h | h | h <;> simp_all⟩
end L3
end
section
namespace L3
open PySem PySem.Spec PyProof.Rows L2 LamX
def flds (o u : Int) : List (Str × V) := putF "under" (.int u) (putF "over" (.int o) [])
def Rt (C : Addr) (H : Hp) (p : Addr) (o u : Int) : Prop := ∃ dx, H p = some (.ins C dx (flds o u))
/-- a number: a fraction or an int -/
def Nm (C : Addr) (H : Hp) (y : V) (o u : Int) : Prop := (∃ q, y = .ref q ∧ Rt C H q o u) ∨ (y = .int o ∧ u = 1)
theorem ins_tbl {C dx : Addr} {fs : List (Str × V)} : ∀ ps, HO.ins C dx fs ≠ .tbl ps := fun _ z => nomatch z
theorem Rt.exN {C : Addr} {H H' : Hp} {p : Addr} {o u : Int} (h : Rt C H p o u) (e : ExtN H H') : Rt C H' p o u := by
  obtain ⟨dx, h⟩ := h
  exact ⟨dx, e _ _ h ins_tbl⟩
theorem Ex.n {H H' : Hp} (e : Ex H H') : ExtN H H' := fun b o h _ => e b o h
theorem Rt.ex {C : Addr} {H H' : Hp} {p : Addr} {o u : Int} (h : Rt C H p o u) (e : Ex H H') : Rt C H' p o u := h.exN e.n
theorem Nm.exN {C : Addr} {H H' : Hp} {y : V} {o u : Int} (h : Nm C H y o u) (e : ExtN H H') : Nm C H' y o u := by
  rcases h with ⟨q, rfl, h⟩ | h
  · exact .inl ⟨q, rfl, h.exN e⟩
  · exact .inr h
theorem Nm.ex {C : Addr} {H H' : Hp} {y : V} {o u : Int} (h : Nm C H y o u) (e : Ex H H') : Nm C H' y o u := h.exN e.n
theorem Od.exN {H H' : Hp} {v : V} {t : Str} (h : Od H v t) (e : ExtN H H') : Od H' v t := by
  cases h with
  | non => exact .non
  | bl b => exact .bl b
  | str z h1 h3 => exact .str z h1 h3
  | tup h1 h2 h3 => exact .tup (e _ _ h1 fun _ z => nomatch z) h2 h3
  | lst h1 h2 h3 => exact .lst (e _ _ h1 fun _ z => nomatch z) h2 h3
  | dic h1 => exact .dic (e _ _ h1 fun _ z => nomatch z)
/-- within bounds -/
structure Bd (o u : Int) : Prop where
  ho : o.natAbs < 2 ^ 1000
  hu : u.natAbs < 2 ^ 1000
  pos : 0 < u
theorem Bd.ne {o u : Int} (b : Bd o u) : u ≠ 0 := by have := b.pos; omega
abbrev numTys : List String := ["int", "NoneType", "bool", "str", "tuple", "list", "dict"]
def OthV (C : Addr) (y : V) (H : Hp) : Prop := (∃ b dx fs, y = .ref b ∧ H b = some (.ins C dx fs)) ∨ (∃ i, y = .int i) ∨ ∃ t, Od H y t
/-- own first -/
def rOwn (C : Addr) (sp : Sp) (E : XK) : R2 := fun x y H Q => ∃ a dx fs, x = .ref a ∧ H a = some (.ins C dx fs) ∧ OthV C y H ∧ sp [x, y] H Q E
end L3
end
section
namespace L3
open PySem PySem.Spec PyProof.Rows L2 LamX
namespace KX
variable {X : Cx} {K : PySem.W.Frag} (hK : X.K = K)
include hK
theorem isiX : CallR X (.builtin "isinstance") (rIsiX K) := by subst hK; exact callIsiX
theorem xfV {e : Expr} {te : TE} {pos : Pos} {n : Str} (he : PE X e te) (hb : attributeBase e n X.env (eval e X.env) = eval e X.env) : PE X (.Attribute e n pos) (tXfV K n te) := by subst hK; exact pe_xfV he hb
theorem tup {es : List Expr} {k : Nat} {t : TGs} {n : Nat} {pos : Pos} (hc : X.calm = true) (h : PGs X es t)
    (hn : (assignEach es X.env).length = n := by rfl) (hst : (assignEach es X.env).findIdx? (·.1) = none := by rfl) : PG X (.Tuple es k pos) (gTup K n t) := by subst hK; exact pg_tup hc h hn hst
end KX
section
variable {K : PySem.W.Frag} {σ : L2.St} {H : Hp} {Q : VK} {D : Ends} {C : Addr} {o u : Int} {te ta : TE}
theorem s_par3 {i j l : Nat} {tt : TA} (h : tt σ H fun vs H1 => ∃ u v w, vs = [u, v, w] ∧ D.nx (((σ.set i (some u)).set j (some v)).set l (some w)) H1) : tPar3 i j l tt D σ H := h
theorem s_trip {R : V → V → V → Prop} {x y z : V} (h : R x y z) : ∃ u v w, [x, y, z] = [u, v, w] ∧ R u v w := ⟨x, y, z, rfl, h⟩
theorem s_aug {i : Nat} {ti : TIp} {x : V} (e : σ[i]? = some (some x)) (h : te σ H fun y H1 => ti x y H1 fun z H2 => D.nx (σ.set i (some z)) H2) : tAug i te ti D σ H := ⟨x, e, h⟩
theorem s_asgT' {n : Nat} {tg : TGs} (h : te σ H fun x H1 => gTup K n tg x σ H1 D.nx) : tAsg te (gTup K n tg) D σ H := h
theorem s_gT {a : Addr} {xs : List V} {n : Nat} {tg : TGs} {R : L2.St → Hp → Prop} (e : H a = some (.tup xs)) (hn : xs.length = n) (h : tg xs σ H R) : gTup K n tg (.ref a) σ H R := ⟨a, xs, rfl, .inl (.inl e), hn, h⟩
theorem s_gC {i : Nat} {v : V} {r : List V} {tg : TGs} {R : L2.St → Hp → Prop} (h : tg r (σ.set i (some v)) H R) : gCons (gName i) tg (v :: r) σ H R := ⟨v, r, rfl, h⟩
theorem s_gN {R : L2.St → Hp → Prop} (h : R σ H) : gNil [] σ H R := ⟨rfl, h⟩
theorem s_fldG {f : Str} (h : ta σ H fun x H1 => ∃ a C dx fs v, x = .ref a ∧ H1 a = some (.ins C dx fs) ∧ Cls K C ∧ NoAttr K C f ∧ fs.lookup f = some v ∧ Q v H1) : tFld K ta f σ H Q := h
theorem s_mulW {i j : Int} {k l : Nat} (hi : i.natAbs < 2 ^ k) (hj : j.natAbs < 2 ^ l) (hk : 0 < k) (hl : 0 < l) (hkl : k + l ≤ 900000) (h : Q (.int (i * j)) H) : rMulU (.int i) (.int j) H Q := s_mulI (wide_mul hi hj hk hl (by omega)).ok h
theorem s_xfV {n : Str} (h : te σ H fun x H1 => ∃ (a C d : Addr) (fs : List (Str × V)) (v : V), x = .ref a ∧ H1 a = some (ExV a (.ref C) (some d)) ∧ H1 d = some (.xd fs) ∧ XfC K C ∧ PySem.W.findIn K (.ref C) n = some none ∧ fs.lookup n = some v ∧ Q v H1) : tXfV K n te σ H Q := h
/-- a def's data stay -/
theorem Dp.exN {H' : Hp} (e : ExtN H H') : ∀ (d : PyData) (v : V), (∀ a xs, SqL K H a xs → SqL K H' a xs) → (∀ a xs, SqT K H a xs → SqT K H' a xs) → Dp K H v d → Dp K H' v d := by
  intro d v h1 h2 h
  induction h using Dp.rec (motive_2 := fun vs ds _ => DpAll K H' vs ds) with
  | non => exact .non
  | bl b => exact .bl b
  | int i => exact .int i
  | str z => exact .str z
  | lst a _ b => exact .lst (h1 _ _ a) b
  | tup a _ b => exact .tup (h2 _ _ a) b
  | nil => exact .nil
  | cons _ _ a b => exact .cons a b
theorem penO_tbl {a c : Addr} {n : Nat} : ∀ ps, PenO a c n ≠ .tbl ps := fun _ z => by unfold PenO at z; cases z
theorem scO_tbl {c : Addr} {ns : List Int} : ∀ ps, ScO c ns ≠ .tbl ps := fun _ z => by unfold ScO at z; cases z
theorem Pen.exN {H' : Hp} {a : Addr} {n : Nat} (p : Pen H a n) (e : ExtN H H') : Pen H' a n := by
  obtain ⟨c, ns, h1, h2, h3⟩ := p
  exact ⟨c, ns, e _ _ h1 penO_tbl, e _ _ h2 scO_tbl, h3⟩
theorem Pen.ex {H' : Hp} {a : Addr} {n : Nat} (p : Pen H a n) (e : Ex H H') : Pen H' a n := Pen.exN p e.n
theorem Pen.at {a : Addr} {n : Nat} (p : Pen H a n) : ∃ c, H a = some (PenO a c n) := by
  obtain ⟨c, ns, h1, _⟩ := p
  exact ⟨c, h1⟩
theorem Wo.exN {T : List (Addr × Str)} {H' : Hp} {a : Addr} {n : Nat} (w : Wo T H a n) (e : ExtN H H') (t : Tabs T H') : Wo T H' a n := ⟨Pen.exN w.pen e, t⟩
/-- a tuple of two ints -/
def Pr (H : Hp) (v : V) (a b : Int) : Prop := ∃ p, v = .ref p ∧ H p = some (.tup [.int a, .int b])
theorem Pr.exN {H' : Hp} {v : V} {a b : Int} (h : Pr H v a b) (e : ExtN H H') : Pr H' v a b := by
  obtain ⟨p, rfl, h⟩ := h
  exact ⟨p, rfl, e _ _ h fun _ z => nomatch z⟩
theorem Pr.ex {H' : Hp} {v : V} {a b : Int} (h : Pr H v a b) (e : Ex H H') : Pr H' v a b := h.exN e.n
theorem Pr.dp {v : V} {a b : Int} (h : Pr H v a b) : Dp K H v (.tuple [.int a, .int b]) := by
  obtain ⟨p, rfl, h⟩ := h
  exact .tup (.inl (.inl h)) (.cons (.int a) (.cons (.int b) .nil))
end
end L3
end
section
namespace L3
open PySem PySem.Spec PyProof.Rows L2 LamX
section
variable {K : PySem.W.Frag} {σ : L2.St} {H H' : Hp} {Q : VK} {C CB : Addr}
inductive Prs (H : Hp) : List V → List (Int × Int) → Prop
  | nil : Prs H [] []
  | cons {v : V} {vs : List V} {q : Int × Int} {qs : List (Int × Int)} : Pr H v q.1 q.2 → Prs H vs qs → Prs H (v :: vs) (q :: qs)
theorem Prs.exN {vs : List V} {qs : List (Int × Int)} (h : Prs H vs qs) (e : ExtN H H') : Prs H' vs qs := by
  induction h with
  | nil => exact .nil
  | cons a _ b => exact .cons (a.exN e) b
theorem Prs.ex {vs : List V} {qs : List (Int × Int)} (h : Prs H vs qs) (e : Ex H H') : Prs H' vs qs := h.exN e.n
theorem Pr.up {v : V} {a b : Int} {D : Addr} {xs zs : List V} (h : Pr H v a b) (hd : H D = some (.lst xs)) : Pr (upd H D (.lst zs)) v a b := by
  obtain ⟨p, rfl, h⟩ := h
  refine ⟨p, rfl, ?_⟩
  rw [upd_ne (ne_of h hd (by intro z; cases z))]
  exact h
theorem Prs.up {vs : List V} {qs : List (Int × Int)} {D : Addr} {xs zs : List V} (h : Prs H vs qs) (hd : H D = some (.lst xs)) : Prs (upd H D (.lst zs)) vs qs := by
  induction h with
  | nil => exact .nil
  | cons a _ b => exact .cons (a.up hd) b
theorem Prs.get {vs : List V} {qs : List (Int × Int)} (h : Prs H vs qs) : ∀ {i : Nat} {x : V}, vs[i]? = some x → ∃ q, qs[i]? = some q ∧ Pr H x q.1 q.2 := by
  induction h with
  | nil => intro i x e; simp at e
  | cons a _ b =>
    intro i x e
    cases i with
    | zero => cases e; exact ⟨_, rfl, a⟩
    | succ i => exact b (by simpa using e)
theorem Prs.length {vs : List V} {qs : List (Int × Int)} (h : Prs H vs qs) : vs.length = qs.length := by
  induction h with
  | nil => rfl
  | cons _ _ b => simp [b]
theorem Prs.snoc {vs : List V} {qs : List (Int × Int)} {v : V} {q : Int × Int} (h : Prs H vs qs) (a : Pr H v q.1 q.2) : Prs H (vs ++ [v]) (qs ++ [q]) := by
  induction h with
  | nil => exact .cons a .nil
  | cons b _ c => exact .cons b c
def prD (qs : List (Int × Int)) : List PyData := qs.map fun q => .tuple [.int q.1, .int q.2]
theorem Prs.dp {vs : List V} {qs : List (Int × Int)} (h : Prs H vs qs) : DpAll K H vs (prD qs) := by
  induction h with
  | nil => exact .nil
  | cons a _ b => exact .cons a.dp b
theorem s_lcL {te ta : TE} {g : TG} {tt : TT} {vs : List Nat} (h : ta σ H fun x H1 => ∃ a, x = .ref a ∧ (∃ xs, SqL K H1 a xs) ∧ LC (Itl K a) g tt te vs σ H1 Q) : tLc (iList K ta) g tt te vs σ H Q := h
/-- so far heard: the list l of equal pairs; the fraction m, the other value v with its text tx; the pen -/
structure Sx (Tt : List (Addr × Str)) (C l m p : Addr) (n : Nat) (o u : Int) (v : V) (tx : Str) (H : Hp) (xs : List V) : Prop where
  lst : H l = some (.lst xs)
  els : ∀ x ∈ xs, ∃ r, x = .ref r ∧ H r = some (.tup [.str "ratio", .str tx])
  rt : Rt C H m o u
  od : Od H v tx
  ne : v ≠ .ref l
  wo : Wo Tt H p n
  few : xs.length ≤ 1000
theorem Sx.exN {Tt : List (Addr × Str)} {l m p : Addr} {n : Nat} {o u : Int} {v : V} {tx : Str} {xs : List V} (S : Sx Tt C l m p n o u v tx H xs) (e : ExtN H H') (t : Tabs Tt H') : Sx Tt C l m p n o u v tx H' xs := by
  refine ⟨e _ _ S.lst (fun _ z => nomatch z), fun x hx => ?_, S.rt.exN e, S.od.exN e, S.ne, S.wo.exN e t, S.few⟩
  obtain ⟨r, h1, h2⟩ := S.els x hx
  exact ⟨r, h1, e _ _ h2 fun _ z => nomatch z⟩
theorem Od.up {v : V} {tx : Str} {l : Addr} {o : HO} (h : Od H v tx) (hn : v ≠ .ref l) : Od (upd H l o) v tx := by
  cases h with
  | non => exact .non
  | bl b => exact .bl b
  | str z h1 h3 => exact .str z h1 h3
  | tup h1 h2 h3 => exact .tup (by rw [upd_ne (fun z => hn (by rw [z]))]; exact h1) h2 h3
  | lst h1 h2 h3 => exact .lst (by rw [upd_ne (fun z => hn (by rw [z]))]; exact h1) h2 h3
  | dic h1 => exact .dic (by rw [upd_ne (fun z => hn (by rw [z]))]; exact h1)
theorem Od.keep {p : Addr} {v : V} {tx : Str} (h : Od H v tx) (hn : v ≠ .ref p) (k : ∀ b o, b ≠ p → H b = some o → H' b = some o) : Od H' v tx := by
  cases h with
  | non => exact .non
  | bl b => exact .bl b
  | str z h1 h3 => exact .str z h1 h3
  | tup h1 h2 h3 => exact .tup (k _ _ (fun z => hn (by rw [z])) h1) h2 h3
  | lst h1 h2 h3 => exact .lst (k _ _ (fun z => hn (by rw [z])) h1) h2 h3
  | dic h1 => exact .dic (k _ _ (fun z => hn (by rw [z])) h1)
theorem scO_lst {c : Addr} {ns : List Int} {xs : List V} : ScO c ns ≠ .lst xs := fun z => by unfold ScO at z; cases z
theorem penO_lst {a c : Addr} {n : Nat} {xs : List V} : PenO a c n ≠ .lst xs := fun z => by unfold PenO at z; cases z
theorem Wo.up {Tt : List (Addr × Str)} {p l : Addr} {n : Nat} {xs zs : List V} (w : Wo Tt H p n) (hl : H l = some (.lst xs)) : Wo Tt (upd H l (.lst zs)) p n := by
  obtain ⟨c, ns, h1, h2, h3⟩ := w.pen
  refine ⟨⟨c, ns, ?_, ?_, h3⟩, fun t ht => ?_⟩
  · rw [upd_ne (ne_of h1 hl penO_lst)]; exact h1
  · rw [upd_ne (ne_of h2 hl scO_lst)]; exact h2
  · obtain ⟨ps, g1, g2, g3⟩ := w.tabs t ht
    refine ⟨ps, by rw [upd_ne (ne_of g1 hl (by intro z; cases z))]; exact g1, g2, fun pos cv hc => ?_⟩
    obtain ⟨c, e1, e2⟩ := g3 pos cv hc
    exact ⟨c, e1, by rw [upd_ne (ne_of e2 hl (by intro z; unfold CodeO at z; cases z))]; exact e2⟩
theorem Sx.app {Tt : List (Addr × Str)} {l m p : Addr} {n : Nat} {o u : Int} {v : V} {tx : Str} {xs : List V} {r : Addr} (S : Sx Tt C l m p n o u v tx H xs) (h : H r = some (.tup [.str "ratio", .str tx])) (hf : xs.length < 1000) :
    Sx Tt C l m p n o u v tx (upd H l (.lst (xs ++ [.ref r]))) (xs ++ [.ref r]) := by
  have go : ∀ b zs, H b = some (.tup zs) → upd H l (.lst (xs ++ [.ref r])) b = some (.tup zs) := fun b zs e => by
    rw [upd_ne (ne_of e S.lst (by intro z; cases z))]; exact e
  refine ⟨upd_same, fun x hx => ?_, ?_, S.od.up S.ne, S.ne, S.wo.up S.lst, by simp; omega⟩
  · rcases List.mem_append.mp hx with hx | hx
    · obtain ⟨r', h1, h2⟩ := S.els x hx
      exact ⟨r', h1, go _ _ h2⟩
    · rw [List.mem_singleton.mp hx]
      exact ⟨r, rfl, go _ _ h⟩
  · obtain ⟨dx, e⟩ := S.rt
    exact ⟨dx, by rw [upd_ne (ne_of e S.lst (by intro z; cases z))]; exact e⟩
theorem Sx.dp {Tt : List (Addr × Str)} {l m p : Addr} {n : Nat} {o u : Int} {v : V} {tx : Str} : ∀ {xs : List V}, (∀ x ∈ xs, ∃ r, x = .ref r ∧ H r = some (.tup [.str "ratio", .str tx])) → DpAll K H xs (List.replicate xs.length (.tuple [.str "ratio", .str tx]))
  | [], _ => .nil
  | x :: r, h => by
    obtain ⟨q, rfl, hq⟩ := h x List.mem_cons_self
    exact .cons (.tup (.inl (.inl hq)) (.cons (.str _) (.cons (.str _) .nil))) (Sx.dp (Tt := Tt) (l := l) (m := m) (p := p) (n := n) (o := o) (u := u) (v := v) fun y hy => h y (List.mem_cons_of_mem _ hy))
end
end L3
end
section
namespace L3
open PySem PySem.Spec PySem.Calls PyProof.Rows PySem.W
section
variable {prog : Program} {w : World} {A : Around} {E : Value → Shared → Prop} {s : Shared} {K : Frag} {x C f : Addr} {ox : Obj} {od : Option Obj} {T id : String} {name : Str} {B : Builtin} {u : Value} {op : CmpOp}
/-- a value of a built-in type, as the machine has it -/
inductive LU (h : Heap) : Value → String → Prop
  | non : LU h .none "NoneType"
  | bl (b : Bool) : LU h (.bool b) "bool"
  | str (z : Str) (t : Tok) : LU h (.str z t) "str"
  | tup {l : Addr} {o : Obj} : h.get? l = some o → o.cls = .type "tuple" → LU h (.ref l) "tuple"
  | lst {l : Addr} {o : Obj} : h.get? l = some o → o.cls = .type "list" → LU h (.ref l) "list"
  | dic {l : Addr} {o : Obj} : h.get? l = some o → o.cls = .type "dict" → LU h (.ref l) "dict"
theorem LU.is (h : LU s.heap u T) : s.TypeIs u T := by
  cases h with
  | non => exact rfl
  | bl b => exact rfl
  | str z t => exact rfl
  | tup e c => exact ⟨_, e, c⟩
  | lst e c => exact ⟨_, e, c⟩
  | dic e c => exact ⟨_, e, c⟩
end
end L3
end
section
namespace L3
open PySem PySem.Spec PySem.Calls PyProof.Rows PySem.W
end L3
namespace L3
open PySem PySem.Spec PyProof.Rows L2 LamX
/-- what the written part says of the class, for its comparisons -/
structure CmpF (K : PySem.W.Frag) (C : Addr) : Prop where
  notF : (numTys.all fun T => PySem.W.notFirst K C (.type T)) = true
  notC : PySem.W.notFirst K C (.ref C) = true
  subs : (numTys.all fun T => decide (PySem.W.subIn K (.ref C) (.type T) = some false)) = true
  ob : PySem.W.mroIn K C (.type "object") = some true
  ne : PySem.W.findIn K (.ref C) "__ne__" = some (some (.builtin "object.__ne__"))
theorem CmpF.sub {K : PySem.W.Frag} {C : Addr} (F : CmpF K C) {T : String} (h : T ∈ numTys) : PySem.W.subIn K (.ref C) (.type T) = some false := of_decide_eq_true (List.all_eq_true.mp F.subs T h)
/-- a method of two parameters by its name -/
structure Me (P : Program) (w : World) (K : PySem.W.Frag) (mg : Str → Option Value) (base : Heap) (C : Addr) (m : Str) (k : Nat) (ps : List Str) (sp : Sp) : Prop where
  ex : ∃ (f : Addr) (fd : FuncData), PySem.W.findIn K (.ref C) m = some (some (.ref f)) ∧ PySem.W.isFn K (.ref f) = true ∧ FnOk P w K mg base (L2.CX P w) k f fd ps sp ∧ L2.Binds K fd ps []
section
variable {X : Cx} {C : Addr} {op : CmpOp} {k j : Nat} {sp : Sp} {E : XK} {m : Str}
theorem oth_looks {pins : List (Addr × Obj)} {σ : L2.St} {H : Hp} {s : Shared} {y : V} {u : Value} (F : CmpF X.K C) (I : Inv X pins σ H s) (r : RelV y u) (h : OthV C y H) : ∃ tb, PySem.W.Looks (model X.prog X.w) s.heap (typeOf u) tb ∧ PySem.W.notFirst X.K C tb = true := by
  have go : ∀ T, TyX X.K H y (.type T) → T ∈ numTys → ∃ tb, PySem.W.Looks (model X.prog X.w) s.heap (typeOf u) tb ∧ PySem.W.notFirst X.K C tb = true := fun T ty hm => by
    obtain ⟨P', kx, hP, _⟩ := kit_of I r ty
    exact ⟨_, kx.ty _ _ I.kIn hP, List.all_eq_true.mp F.notF T hm⟩
  rcases h with ⟨b, dx, fs, rfl, e⟩ | ⟨i, rfl⟩ | ⟨t, h⟩
  · obtain rfl : u = Value.ref b := r
    obtain ⟨od, J⟩ := ins_inst I.hok e
    exact ⟨_, J.type, F.notC⟩
  · exact go _ (.base (.int i)) (by simp)
  · obtain ⟨T, h1, h2⟩ := h.tyAll (K := X.K)
    exact go T h1 (List.mem_cons_of_mem _ h2)
/-- own first -/
theorem cmpOwn (hop : ∀ a b, compareOp op a b = richCompare op a b) (F : CmpF X.K C) (hm : (cmpInfo op).2.1 = m) (B : Me X.prog X.w X.K X.mg X.base C m k ["self", "other"] sp) (hr : Room j X.A) (hx : Passes (L2.CX X.prog X.w) X E) (hk : k ≤ j := by decide) :
    OpR X (compareOp op) (rOwn C sp E) := by
  obtain ⟨f, fd, h1, h2, G, b⟩ := B.ex
  intro pins s σ H x y v u Q I rx ry h
  obtain ⟨a, dx, fs, rfl, ea, ho, q⟩ := h
  obtain rfl : v = Value.ref a := rx
  obtain ⟨od, J⟩ := ins_inst I.hok ea
  obtain ⟨tb, L, nf⟩ := oth_looks F I ry ho
  obtain ⟨mm, Fr⟩ := I.fr
  rw [hop]
  subst hm
  exact PySem.W.cmp_K hr.units0 Fr I.mod.kin J L nf h1 h2 (wpAny_mono (run_fn G (hr.mono hk) b .nil hx I (vs := [.ref a, y]) (.cons (show RelV (.ref a) (.ref a) from rfl) (.cons ry .nil)) (by rw [List.append_nil]; exact q)) (fun w' s' ⟨v', H', I', r', z⟩ => rel_back r' ⟨v', H', I', r', z⟩) fun _ _ z => z)
end
end L3
end
section
namespace L3
open PySem PySem.Spec PyProof.Rows L2 LamX
section
variable {C CB : Addr} {H H' : Hp} {Q : VK} {x y : V} {o u o' u' : Int} {E : XK}
theorem Rz.ex {g : Str} {v : V} (h : Rz C g v H E) (e : Ex H H') : Rz C g v H' E := fun d H2 hd e2 hx => h d H2 (e.free hd) (e.trans e2) hx
end
end L3
end
section
namespace L3
open PySem PySem.Spec PyProof.Rows L2 LamX
end L3
end
section
namespace L3
open PySem PySem.Spec PySem.Calls PyProof.Rows PySem.W
open PySem.MeetsSeq2
open PySem.AutoSeq1 (wpAny_loadPart')
end L3
namespace L3
open PySem PySem.Spec PyProof.Rows L2 LamX L2H
end L3
end
section
namespace L3
open PySem PySem.Spec PyProof.Rows L2 LamX ClX
structure StM (P : Program) (w : World) (K : PySem.W.Frag) (mg : Str → Option Value) (base : Heap) (CX : CXT) (k : Nat) (C : Addr) (m : Str) (ps : List Str) (sp : Sp) : Prop where
  ex : ∃ (mc : Value) (p g : Addr) (gd : FuncData) (rest : List Value), CRead K C mc ∧ PySem.W.findCls K (.ref C) mc m = some (.get (.builtin "staticmethod.__get__") (.ref p) .none (.ref C)) ∧ PySem.W.recIn K p "staticmethod" = some (.ref g :: rest) ∧ PySem.W.handedIn (.ref g) = true ∧
    PySem.W.keepIn K (.ref g) = true ∧ FnOk P w K mg base CX k g gd ps sp ∧ L2.Binds K gd ps [] ∧ ∀ (s : Shared) (ws : List Value), K.In s.heap → ws.length = ps.length → BindsTo s gd ⟨[], ps.zip ws⟩ (ps.zip ws)
def tSt (C : Addr) (sp : Sp) (E : XK) (ta : TE) (t : TA) : TE := fun σ H Q => ta σ H fun x H1 => x = .ref C ∧ t σ H1 fun vs H2 => sp vs H2 Q E
section
variable {X : Cx} {CX : CXT} {k j : Nat} {C : Addr} {sp : Sp} {E : XK} {o e : Expr} {es : List Expr} {m : Str} {ps : List Str} {pos apos : Pos} {ta : TE} {t : TA} {pl : Sem Bool}
theorem getst {pins : List (Addr × Obj)} {σ : L2.St} {H : Hp} {s : Shared} {A : Around} {E' : Value → Shared → Prop} {Q : Value × List Value → Shared → Prop} {mc : Value} {p g : Addr} {rest : List Value} (I : Inv X pins σ H s) (r : CRead X.K C mc) (h1 : PySem.W.findCls X.K (.ref C) mc m = some (.get (.builtin "staticmethod.__get__") (.ref p) .none (.ref C)))
    (h2 : PySem.W.recIn X.K p "staticmethod" = some (.ref g :: rest)) (h3 : PySem.W.handedIn (.ref g) = true) (h : ∀ s', Inv X pins σ H s' → Q (.ref g, []) s') : wpAny (model X.prog X.w) A (getMethod (.ref C) m pl) Q E' s :=
  PySem.W.method_cls I.kIn r.ga (PySem.W.cls_bind I.kIn r.rd h1 (wpAny_call (PySem.W.sm_get (s := { s with toks := s.toks + 1 }) I.kIn h2 (PySem.W.handed_on h3 (h _ (I.tok _))))))
theorem pe_st (c : StM X.prog X.w X.K X.mg X.base CX k C m ps sp) (hr : Room j X.A) (hx : Passes CX X E) (he : PE X o ta) (ha : PA X (e :: es) t) (hk : k ≤ j := by decide)
    (hst : starEach (e :: es) X.env = (false, eval e X.env) :: starEach es X.env := by rfl) (hpl : (backTo pos (starEach es X.env)).any (·.1) = false := by rfl)
    (ht : eval (.Call (.Attribute o m apos) (e :: es) [] pos) X.env = (do
      let ov ← eval o X.env
      standAt apos.atName
      let (f, first) ← holding [ov] (getMethod ov m pl)
      callWith pos f first (backTo pos (starEach (e :: es) X.env)) (backToKw pos (keywordEach [] X.env))) := by rfl) :
    PE X (.Call (.Attribute o m apos) (e :: es) [] pos) (tSt C sp E ta t) := by
  obtain ⟨mc, p, g, gd, rest, r, h1, h2, h3, kp, F, b, _⟩ := c.ex
  refine ⟨fun pins s σ H Q I h => ?_⟩
  refine PySem.W.methodCall_KW (pl := pl) (thn (he.run pins s σ H _ I h) fun u s1 hh => ?_) ht
  obtain ⟨x, H1, I1, rx, ex, q⟩ := hh
  subst ex
  obtain rfl : u = Value.ref C := rx
  refine getst I1 r h1 h2 h3 fun s2 I2 => ?_
  refine PySem.W.callWith_K (h₀ := X.base) (first := []) I2.ok.mod.kin kp (thn (ha.run pos pins s2 σ H1 _ I2 q) fun us s3 hh => ?_) hst hpl
  obtain ⟨vs, H2, I3, rv, q2⟩ := hh
  exact ⟨I3.kIn, run_fn F (hr.mono hk) b .nil hx I3 rv (by rw [List.append_nil]; exact q2)⟩
end
end L3
end
section
namespace L3
open PySem PySem.Spec PyProof.Rows L2 LamX L2H
end L3
end
section
namespace L3
open PySem PySem.Spec PyProof.Rows L2 LamX
section
variable {C CB : Addr} {H H' : Hp} {Q : VK} {E : XK}
/-- no integer: another value or a fraction -/
def OdR (C : Addr) (H : Hp) (x : V) : Prop := (∃ t, Od H x t) ∨ ∃ q o u, x = .ref q ∧ Rt C H q o u
theorem OdR.exN {x : V} (h : OdR C H x) (e : ExtN H H') : OdR C H' x := by
  rcases h with ⟨t, h⟩ | ⟨q, o, u, rfl, h⟩
  · exact .inl ⟨t, h.exN e⟩
  · exact .inr ⟨q, o, u, rfl, h.exN e⟩
end
end L3
end
section
namespace L3
open PySem PySem.Spec PyProof.Rows L2 LamX
section
variable {K : PySem.W.Frag} {C CB : Addr} {H H' : Hp} {Q : VK} {E : XK}
theorem kit_lt {a : String} {b1 b2 : Bool} (h1 : kitB a "list" = some b1) (h2 : kitB a "tuple" = some b2) : PySem.W.kitAny K (.type a) [.type "list", .type "tuple"] = some (b1 || b2) := by
  have e1 := kit_ty (K := K) h1
  have e2 := kit_ty (K := K) h2
  unfold PySem.W.kitAny
  unfold PySem.W.kitAny
  unfold PySem.W.kitAny
  rw [e1, e2]
  cases b1 <;> cases b2 <;> rfl
theorem s_lenT {R : Nat → Prop} {p : Addr} {xs : List V} (hp : H p = some (.tup xs)) (h : R xs.length) : ∃ x n, [V.ref p] = [x] ∧ LenV K x H n ∧ R n := ⟨_, _, rfl, .inr ⟨xs, .inl (.inl hp), rfl⟩, h⟩
inductive Nms (C : Addr) (H : Hp) : List V → List (Int × Int) → Prop
  | nil : Nms C H [] []
  | cons {v : V} {vs : List V} {q : Int × Int} {qs : List (Int × Int)} : Nm C H v q.1 q.2 → Bd q.1 q.2 → Nms C H vs qs → Nms C H (v :: vs) (q :: qs)
theorem Nm.ex' {v : V} {o u : Int} (h : Nm C H v o u) (e : Ex H H') : Nm C H' v o u := by
  rcases h with ⟨q, rfl, r⟩ | h
  · exact .inl ⟨q, rfl, r.ex e⟩
  · exact .inr h
theorem Nms.ex {vs : List V} {qs : List (Int × Int)} (h : Nms C H vs qs) (e : Ex H H') : Nms C H' vs qs := by
  induction h with
  | nil => exact .nil
  | cons a b _ ih => exact .cons (a.ex' e) b ih
theorem Nms.length {vs : List V} {qs : List (Int × Int)} (h : Nms C H vs qs) : vs.length = qs.length := by
  induction h with
  | nil => rfl
  | cons _ _ _ b => simp [b]
theorem Nms.get {vs : List V} {qs : List (Int × Int)} (h : Nms C H vs qs) : ∀ {i : Nat} {x : V}, vs[i]? = some x → ∃ q, qs[i]? = some q ∧ Nm C H x q.1 q.2 ∧ Bd q.1 q.2 := by
  induction h with
  | nil => intro i x e; simp at e
  | cons a b _ ih =>
    intro i x e
    cases i with
    | zero => cases e; exact ⟨_, rfl, a, b⟩
    | succ i => exact ih (by simpa using e)
/-- no list, no tuple; or an empty one -/
inductive NoLT (H : Hp) : V → Prop
  | non : NoLT H .non
  | bl (b : Bool) : NoLT H (.bl b)
  | int (i : Int) : NoLT H (.int i)
  | str (z : Str) : NoLT H (.str z)
  | dic {p : Addr} {kvs : List (Key × V)} : H p = some (.dK kvs) → NoLT H (.ref p)
theorem NoLT.ty {v : V} (h : NoLT H v) : ∃ t, TyX K H v t ∧ PySem.W.kitAny K t [.type "list", .type "tuple"] = some false := by
  cases h with
  | non => exact ⟨_, .base .non, kit_lt (b1 := false) (b2 := false) (by decide +kernel) (by decide +kernel)⟩
  | bl b => exact ⟨_, .base (.bl b), kit_lt (b1 := false) (b2 := false) (by decide +kernel) (by decide +kernel)⟩
  | int b => exact ⟨_, .base (.int b), kit_lt (b1 := false) (b2 := false) (by decide +kernel) (by decide +kernel)⟩
  | str b => exact ⟨_, .base (.str b), kit_lt (b1 := false) (b2 := false) (by decide +kernel) (by decide +kernel)⟩
  | dic h => exact ⟨_, .base (.dK h), kit_lt (b1 := false) (b2 := false) (by decide +kernel) (by decide +kernel)⟩
theorem NoLT.ex {v : V} (h : NoLT H v) (e : Ex H H') : NoLT H' v := by
  cases h with
  | non => exact .non
  | bl b => exact .bl b
  | int b => exact .int b
  | str b => exact .str b
  | dic h => exact .dic (e _ _ h)
variable {g : TG} {tb : TS} {D : Ends} {σ : L2.St} {tl : TE}
def ForL (K : PySem.W.Frag) (a : Addr) (g : TG) (tb : TS) (D : Ends) (σ : L2.St) (H : Hp) : Prop := ∃ W : Nat → Nat → L2.St → Hp → Prop, (∃ m, W 0 m σ H) ∧ ∀ (i m : Nat) (σ : L2.St) (H : Hp), W i m σ H → (Itl K a).stop i H ∧ D.nx σ H ∨ (Itl K a).go i H ∧
  ∃ N, (∀ (σ' : L2.St) (H' : Hp), N σ' H' → ∃ m', m' < m ∧ W (i + 1) m' σ' H') ∧ ∀ (x : V) (H' : Hp), (Itl K a).yld i H x H' → g x σ H' fun σ2 H2 => tb { nx := N, rt := D.rt, bk := D.nx, ct := N } σ2 H2
def ForT (K : PySem.W.Frag) (a : Addr) (g : TG) (tb : TS) (D : Ends) (σ : L2.St) (H : Hp) : Prop := ∃ W : Nat → Nat → L2.St → Hp → Prop, (∃ m, W 0 m σ H) ∧ ∀ (i m : Nat) (σ : L2.St) (H : Hp), W i m σ H → (Itt K a).stop i H ∧ D.nx σ H ∨ (Itt K a).go i H ∧
  ∃ N, (∀ (σ' : L2.St) (H' : Hp), N σ' H' → ∃ m', m' < m ∧ W (i + 1) m' σ' H') ∧ ∀ (x : V) (H' : Hp), (Itt K a).yld i H x H' → g x σ H' fun σ2 H2 => tb { nx := N, rt := D.rt, bk := D.nx, ct := N } σ2 H2
theorem s_forL (h : tl σ H fun x H1 => ∃ a, x = .ref a ∧ (∃ xs, SqL K H1 a xs) ∧ ForL K a g tb D σ H1) : tFor (iList K tl) g tb D σ H := h
theorem s_forT (h : tl σ H fun x H1 => ∃ a, x = .ref a ∧ (∃ xs, SqT K H1 a xs) ∧ ForT K a g tb D σ H1) : tFor (iTup K tl) g tb D σ H := h
theorem s_fT {a : Addr} {xs : List V} (ha : H a = some (.tup xs)) (Pv : Nat → L2.St → Hp → Prop) (h0 : Pv 0 σ H) (hs : ∀ i σ H, Pv i σ H → H a = some (.tup xs))
    (hb : ∀ i x σ H, xs[i]? = some x → Pv i σ H → g x σ H fun σ2 H2 => tb { nx := Pv (i + 1), rt := D.rt, bk := D.nx, ct := Pv (i + 1) } σ2 H2) (he : ∀ σ H, Pv xs.length σ H → D.nx σ H) :
    ∃ a', V.ref a = .ref a' ∧ (∃ xs, SqT K H a' xs) ∧ ForT K a' g tb D σ H := ⟨a, rfl, ⟨xs, .inl (.inl ha)⟩, for_tup Pv h0 (fun i σ H _ h => .inl (.inl (hs i σ H h))) hb he⟩
theorem s_gNm {i : Nat} {v : V} {R : L2.St → Hp → Prop} (h : R (σ.set i (some v)) H) : gName i v σ H R := h
end
end L3
end
section
namespace L3
open PySem PySem.Spec PyProof.Rows L2 LamX
end L3
end
section
namespace L3
open PySem PySem.Spec PyProof.Rows L2 LamX
section
variable {K : PySem.W.Frag} {σ : L2.St} {H H' : Hp} {Q : VK} {C CB : Addr}
inductive Vl (H : Hp) : V → Str → Prop
  | od {v : V} {t : Str} : Od H v t → Vl H v t
  | int (i : Int) : i.natAbs.log2 < 1920 → (PyData.int i).shown.length ≤ 1001 → Vl H (.int i) (PyData.int i).shown
  | d12 {p : Addr} : H p = some (.dK [(.inl 1, .int 2)]) → Vl H (.ref p) (PyData.dict [(.int 1, .int 2)]).shown
theorem Vl.exN {v : V} {t : Str} (h : Vl H v t) (e : ExtN H H') : Vl H' v t := by
  cases h with
  | od h => exact .od (h.exN e)
  | int i h2 h3 => exact .int i h2 h3
  | d12 h => exact .d12 (e _ _ h fun _ z => nomatch z)
theorem Vl.ex {v : V} {t : Str} (h : Vl H v t) (e : Ex H H') : Vl H' v t := h.exN e.n
theorem Vl.up {v : V} {t : Str} {l : Addr} {o : HO} (h : Vl H v t) (hn : v ≠ .ref l) : Vl (upd H l o) v t := by
  cases h with
  | od h => exact .od (h.up hn)
  | int i h2 h3 => exact .int i h2 h3
  | d12 h => exact .d12 (by rw [upd_ne (fun z => hn (by rw [z]))]; exact h)
theorem Vl.keep {p : Addr} {v : V} {t : Str} (h : Vl H v t) (hn : v ≠ .ref p) (k : ∀ b o, b ≠ p → H b = some o → H' b = some o) : Vl H' v t := by
  cases h with
  | od h => exact .od (h.keep hn k)
  | int i h2 h3 => exact .int i h2 h3
  | d12 h => exact .d12 (k _ _ (fun z => hn (by rw [z])) h)
/-- the heard pairs -/
inductive Hrd (H : Hp) : List V → List Str → Prop
  | nil : Hrd H [] []
  | cons {r : Addr} {vs : List V} {t : Str} {ts : List Str} : H r = some (.tup [.str "ratio", .str t]) → Hrd H vs ts → Hrd H (.ref r :: vs) (t :: ts)
theorem Hrd.exN {vs : List V} {ts : List Str} (h : Hrd H vs ts) (e : ExtN H H') : Hrd H' vs ts := by
  induction h with
  | nil => exact .nil
  | cons a _ b => exact .cons (e _ _ a fun _ z => nomatch z) b
theorem Hrd.up {vs : List V} {ts : List Str} {l : Addr} {xs zs : List V} (h : Hrd H vs ts) (hl : H l = some (.lst xs)) : Hrd (upd H l (.lst zs)) vs ts := by
  induction h with
  | nil => exact .nil
  | cons a _ b => exact .cons (by rw [upd_ne (ne_of a hl (by intro z; cases z))]; exact a) b
theorem Hrd.snoc {vs : List V} {ts : List Str} {r : Addr} {t : Str} (h : Hrd H vs ts) (a : H r = some (.tup [.str "ratio", .str t])) : Hrd H (vs ++ [.ref r]) (ts ++ [t]) := by
  induction h with
  | nil => exact .cons a .nil
  | cons b _ c => exact .cons b c
theorem Hrd.length {vs : List V} {ts : List Str} (h : Hrd H vs ts) : vs.length = ts.length := by
  induction h with
  | nil => rfl
  | cons _ _ b => simp [b]
def hrD (ts : List Str) : List PyData := ts.map fun t => .tuple [.str "ratio", .str t]
theorem Hrd.dp {vs : List V} {ts : List Str} (h : Hrd H vs ts) : DpAll K H vs (hrD ts) := by
  induction h with
  | nil => exact .nil
  | cons a _ b => exact .cons (.tup (.inl (.inl a)) (.cons (.str _) (.cons (.str _) .nil))) b
/-- so far heard: the list l; what is known of some values; the pen -/
structure Sy (Tt : List (Addr × Str)) (l p : Addr) (n : Nat) (Pv : Hp → Prop) (H : Hp) (xs : List V) (ts : List Str) : Prop where
  lst : H l = some (.lst xs)
  els : Hrd H xs ts
  pv : Pv H
  wo : Wo Tt H p n
  few : xs.length ≤ 1000
structure Clo (l : Addr) (Pv : Hp → Prop) : Prop where
  ext : ∀ H H', Pv H → ExtN H H' → Pv H'
  upd : ∀ H zs, Pv H → Pv (upd H l (.lst zs))
theorem Sy.exN {Tt : List (Addr × Str)} {l p : Addr} {n : Nat} {Pv : Hp → Prop} {xs : List V} {ts : List Str} (S : Sy Tt l p n Pv H xs ts) (c : Clo l Pv) (e : ExtN H H') (t : Tabs Tt H') : Sy Tt l p n Pv H' xs ts :=
  ⟨e _ _ S.lst (fun _ z => nomatch z), S.els.exN e, c.ext _ _ S.pv e, S.wo.exN e t, S.few⟩
theorem Sy.app {Tt : List (Addr × Str)} {l p : Addr} {n : Nat} {Pv : Hp → Prop} {xs : List V} {ts : List Str} {r : Addr} {tx : Str} (S : Sy Tt l p n Pv H xs ts) (c : Clo l Pv) (h : H r = some (.tup [.str "ratio", .str tx])) (hf : xs.length < 1000) :
    Sy Tt l p n Pv (upd H l (.lst (xs ++ [.ref r]))) (xs ++ [.ref r]) (ts ++ [tx]) :=
  ⟨upd_same, (S.els.up S.lst).snoc (by rw [upd_ne (ne_of h S.lst (by intro z; cases z))]; exact h), c.upd _ _ S.pv, S.wo.up S.lst, by simp; omega⟩
/-- no list or tuple of numbers -/
def Lt (H : Hp) (v : V) : Prop := NoLT H v ∨ ∃ a, v = .ref a ∧ (H a = some (.lst []) ∨ H a = some (.tup []))
theorem Lt.map {v : V} {G : Hp} (h : Lt H v) (f : ∀ a o, v = .ref a → H a = some o → (∀ ps, o ≠ .tbl ps) → G a = some o) : Lt G v := by
  rcases h with h | ⟨a, rfl, h⟩
  · cases h with
    | non => exact .inl .non
    | bl b => exact .inl (.bl b)
    | int i => exact .inl (.int i)
    | str z => exact .inl (.str z)
    | dic h => exact .inl (.dic (f _ _ rfl h fun _ z => nomatch z))
  · exact .inr ⟨a, rfl, h.imp (fun h => f _ _ rfl h fun _ z => nomatch z) (fun h => f _ _ rfl h fun _ z => nomatch z)⟩
theorem Lt.exN {v : V} (h : Lt H v) (e : ExtN H H') : Lt H' v := h.map fun a o _ h n => e a o h n
theorem Lt.up {v : V} {l : Addr} {o : HO} (h : Lt H v) (hn : v ≠ .ref l) : Lt (upd H l o) v := h.map fun a o e h _ => by rw [upd_ne (fun z => hn (by rw [e, z]))]; exact h
theorem Lt.keep {p : Addr} {v : V} (h : Lt H v) (hn : v ≠ .ref p) (k : ∀ b o, b ≠ p → H b = some o → H' b = some o) : Lt H' v := h.map fun a o e h _ => k a o (fun z => hn (by rw [e, z])) h
end
end L3
end
section
namespace L3
open PySem PySem.Spec PyProof.Rows L2 LamX ClX
structure Er2 (P : Program) (w : World) (K : PySem.W.Frag) (mg : Str → Option Value) (base : Heap) (x : Str) (C : Addr) (g g2 : Str) : Prop where
  oex : OexC K C
  m : mg x = some (.ref C)
  ex : ∃ (f : Addr) (fd : FuncData) (y y2 : Str), PySem.W.findIn K (.ref C) "__init__" = some (some (.ref f)) ∧ PySem.W.typeIn K (.ref f) = some (.type "function") ∧ FnOk P w K mg base CX0 1 f fd ["self", y, y2] (spErr2 C g g2) ∧ L2.Binds K fd ["self", y, y2] []
def Rz2 (C : Addr) (g g2 : Str) (v v2 : V) (H : Hp) (E : XK) : Prop := ∀ d H', H d = none → Ex H H' → H' d = some (.xd [(g2, v2), (g, v)]) → E (.ref C) (some d) H'
theorem Rz2.ex {C : Addr} {g g2 : Str} {v v2 : V} {H H' : Hp} {E : XK} (h : Rz2 C g g2 v v2 H E) (e : Ex H H') : Rz2 C g g2 v v2 H' E := fun d H2 hd e2 hx => h d H2 (e.free hd) (e.trans e2) hx
def rMk2 (C : Addr) (g g2 : Str) (vs : List V) (H1 : Hp) (E : XK) : Prop := vs.length ≤ 1000 ∧ ∀ a, H1 a = none → spErr2 C g g2 (.ref a :: (vs ++ [])) (upd H1 a (exo a C none))
  (fun v H2 => v = .non ∧ ∃ (d : Addr) (fs : List (Str × V)), H2 a = some (exo a C (some d)) ∧ H2 d = some (exd d fs) ∧ H1 d = none ∧ E (.ref C) (some d) (upd (del H2 a) d (.xd fs))) (fun _ _ _ => False)
def tRaise2 (C : Addr) (g g2 : Str) (te te2 : TE) (W : WX) : TS := fun _ σ H => te σ H fun v H1 => te2 σ H1 fun v2 H2 => rMk2 C g g2 [v, v2] H2 (fun cls d H' => W cls d σ H')
theorem ps_raise2 {X : Cx} {W : WX} {x g g2 : Str} {C : Addr} {j : Nat} {e e2 : Expr} {te te2 : TE} {p p1 pos : Pos} (c : Er2 X.prog X.w X.K X.mg X.base x C g g2) (hr : Room j X.A) (hc : X.calm = true) (tk : Takes X W) (ha : PA X [e, e2] (tCons te (tCons te2 tNil))) (hk : 2 ≤ j := by decide) (gl : Gl X x := by rfl)
    (hdb : (x == ("__debug__" : Str)) = false := by decide) (hst : starEach [e, e2] X.env = (false, eval e X.env) :: starEach [e2] X.env := by rfl) (hpl : (backTo p1 (starEach [e2] X.env)).any (·.1) = false := by rfl) :
    PS X (.Raise (some (.Call (.Name x p) [e, e2] [] p1)) none pos) (tRaise2 C g g2 te te2 W) := by
  obtain ⟨f, fd, y, y2, i1, i2, F, b⟩ := c.ex
  exact ps_raise (pos := pos) hc tk (pmk_oex (p := p) (pos := p1) c.oex i1 i2 F (hr.mono hk) b .nil pass0 gl c.m ha hdb hst hpl)
theorem s_raise2 {C : Addr} {g g2 : Str} {te te2 : TE} {W : WX} {D : Ends} {σ : L2.St} {H : Hp} (h : te σ H fun v H1 => te2 σ H1 fun v2 H2 => rMk2 C g g2 [v, v2] H2 (fun cls d H' => W cls d σ H')) : tRaise2 C g g2 te te2 W D σ H := h
theorem s_rz2 {C : Addr} {g g2 : Str} {v v2 : V} {H : Hp} {E : XK} (h : Rz2 C g g2 v v2 H E) : rMk2 C g g2 [v, v2] H E := by
  refine ⟨(show 2 ≤ 1000 by decide), fun a ha => ⟨a, v, v2, rfl, upd_same, fun dx h1 h2 => ⟨rfl, dx, [(g2, v2), (g, v)], ?_, upd_same, ?_, h dx _ ?_ ?_ upd_same⟩⟩⟩
  · rw [upd_ne (Ne.symm h2), upd_same]
  · rw [upd_ne h2] at h1; exact h1
  · rw [upd_ne h2] at h1; exact h1
  · intro b o e
    have n1 : b ≠ a := ne_of_none e ha
    have n2 : b ≠ dx := by
      rw [upd_ne h2] at h1
      exact ne_of_none e h1
    rw [upd_ne n2, del_ne n1, upd_ne n2, upd_ne n1, upd_ne n2, upd_ne n1]
    exact e
end L3
end
section
namespace L3
open PySem PySem.Spec PySem.Calls PyProof.Rows PySem.W PySem.TypeEq
end L3
namespace L3
open PySem PySem.Spec PyProof.Rows L2 LamX
/-- two functions made by lambdas -/
def FnAt (H : Hp) (f : Addr) : Prop := H f = some (FnV f)
theorem FnAt.exN {H H' : Hp} {f : Addr} (h : FnAt H f) (e : ExtN H H') : FnAt H' f := e _ _ h fun _ z => by unfold FnV at z; cases z
end L3
end
section
namespace L3
open PySem PySem.Spec PyProof.Rows L2 LamX
/-- a number within, or anything else -/
def InB (v : V) (a b : Int) : Prop := ∃ i, v = .int i ∧ a ≤ i ∧ i ≤ b
def OutB (H : Hp) (v : V) (a b : Int) : Prop := (∃ t, Od H v t) ∨ ∃ i, v = .int i ∧ ¬ (a ≤ i ∧ i ≤ b)
theorem OutB.exN {H H' : Hp} {v : V} {a b : Int} (h : OutB H v a b) (e : ExtN H H') : OutB H' v a b := h.imp (fun ⟨t, h⟩ => ⟨t, h.exN e⟩) id
/-- a number or another value -/
def Kv (H : Hp) (v : V) : Prop := (∃ i, v = .int i) ∨ ∃ t, Od H v t
theorem Kv.exN {H H' : Hp} {v : V} (h : Kv H v) (e : ExtN H H') : Kv H' v := h.imp id fun ⟨t, h⟩ => ⟨t, h.exN e⟩
theorem Kv.ex {H H' : Hp} {v : V} (h : Kv H v) (e : Ex H H') : Kv H' v := h.exN e.n
theorem Kv.keep {H H' : Hp} {p : Addr} {v : V} (h : Kv H v) (hn : v ≠ .ref p) (k : ∀ b o, b ≠ p → H b = some o → H' b = some o) : Kv H' v := h.imp id fun ⟨t, h⟩ => ⟨t, h.keep hn k⟩
def fxF (i : Int) (t : Addr) : List (Str × V) := putF "modulus" (.int 1) (putF "parts" (.ref t) (putF "size" (.int i) []))
def Fx (C : Addr) (H : Hp) (q : Addr) (i : Int) : Prop := ∃ dx t, H q = some (.ins C dx (fxF i t)) ∧ H t = some (.tup [.ref q])
def dvF (x y w : Int) (t : Addr) : List (Str × V) := putF "modulus" (.int w) (putF "parts" (.ref t) (putF "w" (.int w) (putF "y" (.int y) (putF "x" (.int x) []))))
def Dv (C : Addr) (H : Hp) (q : Addr) (x y w : Int) : Prop := ∃ dx t, H q = some (.ins C dx (dvF x y w t)) ∧ H t = some (.tup [.ref q])
def byF (f t : Addr) : List (Str × V) := putF "modulus" (.int 1) (putF "parts" (.ref t) (putF "function" (.ref f) []))
def Byr (C : Addr) (H : Hp) (q f : Addr) : Prop := ∃ dx t, H q = some (.ins C dx (byF f t)) ∧ H t = some (.tup [])
section
variable {C CS CR : Addr} {H H' : Hp} {Q : VK} {E : XK}
theorem Fx.exN {q : Addr} {i : Int} (h : Fx C H q i) (e : ExtN H H') : Fx C H' q i := by
  obtain ⟨dx, t, a, b⟩ := h
  exact ⟨dx, t, e _ _ a (fun _ z => nomatch z), e _ _ b (fun _ z => nomatch z)⟩
theorem Fx.ex {q : Addr} {i : Int} (h : Fx C H q i) (e : Ex H H') : Fx C H' q i := h.exN e.n
theorem Dv.exN {q : Addr} {x y w : Int} (h : Dv C H q x y w) (e : ExtN H H') : Dv C H' q x y w := by
  obtain ⟨dx, t, a, b⟩ := h
  exact ⟨dx, t, e _ _ a (fun _ z => nomatch z), e _ _ b (fun _ z => nomatch z)⟩
theorem Dv.ex {q : Addr} {x y w : Int} (h : Dv C H q x y w) (e : Ex H H') : Dv C H' q x y w := h.exN e.n
theorem Byr.exN {q f : Addr} (h : Byr C H q f) (e : ExtN H H') : Byr C H' q f := by
  obtain ⟨dx, t, a, b⟩ := h
  exact ⟨dx, t, e _ _ a (fun _ z => nomatch z), e _ _ b (fun _ z => nomatch z)⟩
def WrD (H : Hp) (a b c : V) (z : Str) : Prop := (OutB H a 0 24 ∧ z = "x") ∨ (InB a 0 24 ∧ OutB H b (-1000) 1000 ∧ z = "y") ∨ (InB a 0 24 ∧ InB b (-1000) 1000 ∧ OutB H c 1 24 ∧ z = "w")
theorem WrD.exN {a b c : V} {z : Str} (h : WrD H a b c z) (e : ExtN H H') : WrD H' a b c z := by
  rcases h with ⟨h, r⟩ | ⟨i, h, r⟩ | ⟨i, j, h, r⟩
  · exact .inl ⟨h.exN e, r⟩
  · exact .inr (.inl ⟨i, h.exN e, r⟩)
  · exact .inr (.inr ⟨i, j, h.exN e, r⟩)
end
end L3
end
section
namespace L3
open PySem PySem.Spec PyProof.Rows L2 LamX
section
variable {K : PySem.W.Frag} {σ : L2.St} {H H' : Hp} {Q : VK} {C CR CS CF CD : Addr}
theorem sh2 {a b : Str} (ha : PyData.strOk a = true) (hb : PyData.strOk b = true) : SeqAt.shaped (.tuple [.str a, .str b]) = true := by
  unfold SeqAt.shaped; simp only [PyData.canLay0, PyData.canLayAll0, ha, hb]; rfl
/-- the list of other values -/
def OddL (H : Hp) (l : Addr) : Prop := ∃ t e d, H l = some (.lst [.non, .bl true, .str "1", .ref t, .ref e, .ref d, .bl false]) ∧ H t = some (.tup [.int 1]) ∧ H e = some (.lst []) ∧ H d = some (.dK [])
theorem OddL.ex {l : Addr} (h : OddL H l) (e : Ex H H') : OddL H' l := by
  obtain ⟨t, a, d, h1, h2, h3, h4⟩ := h
  exact ⟨t, a, d, e _ _ h1, e _ _ h2, e _ _ h3, e _ _ h4⟩
theorem OddL.keep {l p : Addr} {n : Nat} (h : OddL H l) (hp : Pen H p n) (k : ∀ b o, b ≠ p → H b = some o → H' b = some o) : OddL H' l := by
  obtain ⟨t, a, d, h1, h2, h3, h4⟩ := h
  have nn : ∀ {q : Addr} {o : HO}, H q = some o → (∀ c n, o ≠ PenO p c n) → H' q = some o := fun {q o} e z => k _ _ (hp.ne e z) e
  exact ⟨t, a, d, nn h1 (fun c n z => by unfold PenO at z; cases z), nn h2 (fun c n z => by unfold PenO at z; cases z), nn h3 (fun c n z => by unfold PenO at z; cases z), nn h4 (fun c n z => by unfold PenO at z; cases z)⟩
theorem Byr.ex {q f : Addr} (h : Byr C H q f) (e : Ex H H') : Byr C H' q f := h.exN e.n
theorem FnAt.ex {f : Addr} (h : FnAt H f) (e : Ex H H') : FnAt H' f := h.exN e.n
end
end L3
end
section
namespace L3
open PySem PySem.Spec PySem.HandSPX
end L3
end
section
namespace L3
open PySem PySem.Spec PyProof.Rows L2 LamX
def LamF (f : Addr) (q : Str) (params : Arguments) (body : Expr) (scope : Scope) (c' : Addr) : HO := .ext fun h => ∃ pm ctv, h.get? f = some (PySem.W.kla_obj "<lambda>" q params body scope [] pm c' ctv)
/-- what is promised of such a lambda, wherever it is called -/
structure Lam1 (P : Program) (w : World) (K : PySem.W.Frag) (mg : Str → Option Value) (base : Heap) (k : Nat) (x : Str) (q : Str) (params : Arguments) (body : Expr) (scope : Scope) (sp : Sp) : Prop where
  bind : ∀ (pm cv ctv u : Value), bindArgs (PySem.W.kla_fn "<lambda>" q params body scope [] pm cv ctv) ⟨[u], []⟩ = pure [(x, u)]
  sc : FnScope [x] [x] scope
  body : ∀ (A : Around) (outer : List Env) (s : Shared) (H : Hp) (E : XK) (f c' : Addr) (v : V) (Q : VK), Room k (A.deeper (envOfC q scope s.heap.objs.size f (.ref c'))) → sp [v] H Q E → ∃ t, PE (cxOf CX0 P w K mg base [x] q scope f (.ref c') A outer s H E) body t ∧ t [some v] H Q
def LamAt (P : Program) (w : World) (K : PySem.W.Frag) (mg : Str → Option Value) (base : Heap) (k : Nat) (H : Hp) (f : Addr) (sp : Sp) : Prop :=
  ∃ (x q : Str) (params : Arguments) (body : Expr) (scope : Scope) (c' : Addr), H f = some (LamF f q params body scope c') ∧ H c' = some (CodeO c' q) ∧ Lam1 P w K mg base k x q params body scope sp
theorem LamAt.exN {P : Program} {w : World} {K : PySem.W.Frag} {mg : Str → Option Value} {base : Heap} {k : Nat} {H H' : Hp} {f : Addr} {sp : Sp} (h : LamAt P w K mg base k H f sp) (e : ExtN H H') : LamAt P w K mg base k H' f sp := by
  obtain ⟨x, q, params, body, scope, c', h1, h2, h3⟩ := h
  exact ⟨x, q, params, body, scope, c', e _ _ h1 (fun _ z => by unfold LamF at z; cases z), e _ _ h2 codeO_ne, h3⟩
theorem LamAt.keep {P : Program} {w : World} {K : PySem.W.Frag} {mg : Str → Option Value} {base : Heap} {k : Nat} {H H' : Hp} {f : Addr} {sp : Sp} (h : LamAt P w K mg base k H f sp) (e : ∀ b o, H b = some o → (∃ f q a b s c, o = LamF f q a b s c) ∨ (∃ c q, o = CodeO c q) → H' b = some o) : LamAt P w K mg base k H' f sp := by
  obtain ⟨x, q, params, body, scope, c', h1, h2, h3⟩ := h
  exact ⟨x, q, params, body, scope, c', e _ _ h1 (.inl ⟨_, _, _, _, _, _, rfl⟩), e _ _ h2 (.inr ⟨_, _, rfl⟩), h3⟩
def tCallF (P : Program) (w : World) (K : PySem.W.Frag) (mg : Str → Option Value) (base : Heap) (k : Nat) (tf : TE) (ta : TA) : TE := fun σ H Q =>
  tf σ H fun fv H1 => ∃ (f : Addr) (sp : Sp), fv = .ref f ∧ LamAt P w K mg base k H1 f sp ∧ ta σ H1 fun vs H2 => ∃ v, vs = [v] ∧ LamAt P w K mg base k H2 f sp ∧ sp [v] H2 Q (fun _ _ _ => False)
end L3
end
section
namespace L3
open PySem PySem.Spec PyProof.Rows L2 LamX
def ErAt (H : Hp) (a C : Addr) (fs : List (Str × V)) : Prop := (∃ d, H a = some (exo a C (some d)) ∧ H d = some (exd d fs)) ∨ (fs = [] ∧ H a = some (exo a C none))
theorem exo_tbl {e C : Addr} {d : Option Addr} : ∀ ps, exo e C d ≠ .tbl ps := fun _ z => by unfold exo at z; cases z
theorem exd_tbl {d : Addr} {fs : List (Str × V)} : ∀ ps, exd d fs ≠ .tbl ps := fun _ z => by unfold exd at z; cases z
theorem ErAt.exN {H H' : Hp} {a C : Addr} {fs : List (Str × V)} (h : ErAt H a C fs) (e : ExtN H H') : ErAt H' a C fs := by
  rcases h with ⟨d, h1, h2⟩ | ⟨h1, h2⟩
  · exact .inl ⟨d, e _ _ h1 exo_tbl, e _ _ h2 exd_tbl⟩
  · exact .inr ⟨h1, e _ _ h2 exo_tbl⟩
def tLstN (t : TA) : TE := fun σ H Q => t σ H fun xs H1 => xs.length ≤ sizeLine ∧ ∀ p, H1 p = none → p ≠ sysModules → ap Q (.ref p) (upd H1 p (.lst xs))
def litB : V → Bool
  | .int _ => true
  | .bl _ => true
  | .str _ => true
  | .non => true
  | _ => false
def litD : V → PyData
  | .int i => .int i
  | .bl b => .bool b
  | .str z => .str z
  | _ => .none
theorem readsFlat {h : Heap} : ∀ {xs : List V} {us : List Value}, Vals xs us → xs.all litB = true → ReadsAll h us (xs.map litD) []
  | [], _, r, _ => by cases r; exact .nil
  | x :: xs, _, r, hf => by
    cases r with
    | cons rx rs =>
      rw [List.all_cons, Bool.and_eq_true] at hf
      have ih := readsFlat (h := h) rs hf.2
      have one : ∀ {u : Value}, RelV x u → Reads h u (litD x) [] := fun {u} rx => by
        cases x with
        | int i => obtain ⟨t, rfl⟩ := rx; exact .int i t
        | bl b => cases (show u = Value.bool b from rx); exact .bool b
        | str z => obtain ⟨t, rfl⟩ := rx; exact .str z t
        | non => cases (show u = Value.none from rx); exact .none
        | _ => exact absurd hf.1 (by simp [litB])
      exact .cons (one rx) ih
inductive Vd (H : Hp) : V → PyData → Prop
  | non : Vd H .non .none
  | bl (b : Bool) : Vd H (.bl b) (.bool b)
  | int (i : Int) : Vd H (.int i) (.int i)
  | str (z : Str) : Vd H (.str z) (.str z)
  | tup {p : Addr} {xs : List V} : H p = some (.tup xs) → xs.all litB = true → Vd H (.ref p) (.tuple (xs.map litD))
  | lst {p : Addr} {xs : List V} : H p = some (.lst xs) → p ≠ sysModules → xs.all litB = true → Vd H (.ref p) (.list (xs.map litD))
  | d0 {p : Addr} : H p = some (.dK []) → Vd H (.ref p) (.dict [])
  | d1 {p : Addr} {k v : Str} : H p = some (.dK [(.inr k, .str v)]) → Vd H (.ref p) (.dict [(.str k, .str v)])
theorem Vd.map {H H' : Hp} {v : V} {d : PyData} (h : Vd H v d) (f : ∀ a o, v = .ref a → H a = some o → (∀ ps, o ≠ .tbl ps) → H' a = some o) : Vd H' v d := by
  cases h with
  | non => exact .non
  | bl b => exact .bl b
  | int i => exact .int i
  | str z => exact .str z
  | tup h1 h2 => exact .tup (f _ _ rfl h1 fun _ z => nomatch z) h2
  | lst h1 h2 h3 => exact .lst (f _ _ rfl h1 fun _ z => nomatch z) h2 h3
  | d0 h1 => exact .d0 (f _ _ rfl h1 fun _ z => nomatch z)
  | d1 h1 => exact .d1 (f _ _ rfl h1 fun _ z => nomatch z)
theorem Vd.exN {H H' : Hp} {v : V} {d : PyData} (h : Vd H v d) (e : ExtN H H') : Vd H' v d := h.map fun a o _ h n => e a o h n
theorem Vd.ex {H H' : Hp} {v : V} {d : PyData} (h : Vd H v d) (e : Ex H H') : Vd H' v d := h.exN e.n
theorem Vd.reads {X : Cx} {pins : List (Addr × Obj)} {σ : L2.St} {H : Hp} {s : Shared} {v : V} {d : PyData} {u : Value} (I : Inv X pins σ H s) (h : Vd H v d) (r : RelV v u) : ∃ as, Reads s.heap u d as ∧ sysModules ∉ as := by
  cases h with
  | non => cases (show u = Value.none from r); exact ⟨[], .none, by simp⟩
  | bl b => cases (show u = Value.bool b from r); exact ⟨[], .bool b, by simp⟩
  | int i => obtain ⟨t, rfl⟩ := r; exact ⟨[], .int i t, by simp⟩
  | str z => obtain ⟨t, rfl⟩ := r; exact ⟨[], .str z t, by simp⟩
  | @tup p xs h1 h2 =>
    cases (show u = Value.ref p from r)
    obtain ⟨_, its, rv, o, e1, e2, n, e3⟩ := (show ObjOk X.prog X.w H s.heap p (.tup xs) from I.hok p _ h1)
    exact ⟨[], .tuple e1 e2 e3 (by simpa using readsFlat rv h2), by simp⟩
  | @lst p xs h1 h2 h3 =>
    cases (show u = Value.ref p from r)
    obtain ⟨_, its, n, rv, e1⟩ := (show ObjOk X.prog X.w H s.heap p (.lst xs) from I.hok p _ h1)
    exact ⟨_, .list e1 rfl rfl (by simpa using readsFlat rv h3), by simpa using Ne.symm h2⟩
  | @d0 p h1 =>
    cases (show u = Value.ref p from r)
    obtain ⟨_, hs, vs, kv, hd⟩ := (show ObjOk X.prog X.w H s.heap p (.dK []) from I.hok p _ h1)
    cases kv
    obtain ⟨o, es, ep, e1, ⟨e2, _⟩, e3, _, e4, _⟩ := hd
    have e5 : es.toList = [] := by
      generalize es.toList = l at e4
      cases l with
      | nil => rfl
      | cons a b => cases e4
    exact ⟨_, .dict (as := []) (bs := []) e1 e2 e3 (by rw [e5]; exact .nil) (by rw [e5]; exact .nil), by simpa using Ne.symm (beq_eq_false_iff_ne.mp hs)⟩
  | @d1 p k v h1 =>
    cases (show u = Value.ref p from r)
    obtain ⟨_, hs, vs, kv, hd⟩ := (show ObjOk X.prog X.w H s.heap p (.dK [(.inr k, .str v)]) from I.hok p _ h1)
    obtain ⟨o, es, ep, e1, ⟨e2, _⟩, e3, _, e4, _⟩ := hd
    obtain ⟨k0, v0, rfl, hk0, rv⟩ : ∃ k0 v0, vs = [(k0, v0)] ∧ k0 = .inr k ∧ L2.RelV (.str v) v0 := by
      cases kv with
      | cons rv kv' => cases kv'; exact ⟨_, _, rfl, rv.1.symm, rv.2⟩
    subst hk0
    obtain ⟨e0, he, hk, hv⟩ : ∃ e0 : DictEntry, es.toList = [e0] ∧ (mixKind X.prog X.w).is (.inr k) e0.key = true ∧ e0.val = v0 := by
      generalize es.toList = l at e4
      cases l with
      | nil => cases e4
      | cons e l =>
        generalize hz : [((Sum.inr k : Key), v0)] = z at e4
        cases e4 with
        | cons h1 h2 h3 =>
          cases hz
          cases h3
          exact ⟨e, rfl, h1, h2⟩
    obtain ⟨t1, hk'⟩ : ∃ t1, e0.key = .str k t1 := by
      change keyIs (.inr k) e0.key = true at hk
      rcases keyIs_shape hk with ⟨i, t, z, _⟩ | ⟨x, t, z, z2⟩
      · cases z
      · cases z; exact ⟨t, z2⟩
    obtain ⟨t2, rfl⟩ := rv
    exact ⟨_, .dict (as := []) (bs := []) e1 e2 e3 (by rw [he]; show ReadsAll _ [e0.key] [.str k] []; rw [hk']; exact .cons (.str k t1) .nil) (by rw [he]; show ReadsAll _ [e0.val] [.str v] []; rw [hv]; exact .cons (.str v t2) .nil), by simpa using Ne.symm (beq_eq_false_iff_ne.mp hs)⟩
inductive VdAll (H : Hp) : List V → List PyData → Prop
  | nil : VdAll H [] []
  | cons {v : V} {d : PyData} {vs : List V} {ds : List PyData} : Vd H v d → VdAll H vs ds → VdAll H (v :: vs) (d :: ds)
theorem VdAll.exN {H H' : Hp} {vs : List V} {ds : List PyData} (h : VdAll H vs ds) (e : ExtN H H') : VdAll H' vs ds := by
  induction h with
  | nil => exact .nil
  | cons a _ b => exact .cons (a.exN e) b
theorem VdAll.reads {X : Cx} {pins : List (Addr × Obj)} {σ : L2.St} {H : Hp} {s : Shared} (I : Inv X pins σ H s) : ∀ {vs : List V} {ds : List PyData} {us : List Value}, VdAll H vs ds → Vals vs us → ∃ as, ReadsAll s.heap us ds as ∧ sysModules ∉ as
  | _, _, _, .nil, r => by cases r; exact ⟨[], .nil, by simp⟩
  | _, _, _, .cons a b, r => by
    cases r with
    | cons r1 r2 =>
      obtain ⟨as, h1, h2⟩ := a.reads I r1
      obtain ⟨bs, h3, h4⟩ := VdAll.reads I b r2
      exact ⟨_, .cons h1 h3, fun z => (List.mem_append.mp z).elim h2 h4⟩
end L3
end
section
namespace L3
open PySem PySem.Spec PyProof.Rows L2 LamX
section
variable {σ : L2.St} {H : Hp} {te : TE} {Q : VK} {K : PySem.W.Frag}
def spTell (K : PySem.W.Frag) (gs : List Str) : Sp := fun xs H Q _ => ∃ a C fs vs, xs = [.ref a] ∧ ErAt H a C fs ∧ XfC K C ∧ (∀ g ∈ gs, PySem.W.findIn K (.ref C) g = some none) ∧ gs.map (fun g => fs.lookup g) = vs.map some ∧ vs.length ≤ 1000 ∧
  ∀ p H', p ≠ sysModules → H p = none → Ex H H' → H' p = some (.lst vs) → Q (.ref p) H'
def spKind (K : PySem.W.Frag) (C : Addr) : Sp := fun xs H Q _ => ∃ a D fs b, xs = [.ref a] ∧ ErAt H a D fs ∧ ExcC K D ∧ PySem.W.kitOne K (.ref D) (.ref C) = some b ∧ Q (.bl b) H
/-- one row: an error, what tells it, what is due, its number -/
def Row (Lm : Hp → Addr → Sp → Prop) (K : PySem.W.Frag) (cs : List Addr) (v1 v2 : V) (H : Hp) (v : V) : Prop := ∃ t e f l j fs gs vs, v = .ref t ∧ H t = some (.tup [.ref e, .ref f, .ref l, .int ((j : Nat) : Int)]) ∧ j < 26 ∧ ErAt H e (cs.getD j 0) fs ∧ Lm H f (spTell K gs) ∧ H l = some (.lst vs) ∧ l ≠ sysModules ∧
  (∀ g ∈ gs, PySem.W.findIn K (.ref (cs.getD j 0)) g = some none) ∧ gs.map (fun g => fs.lookup g) = vs.map some ∧ (∀ x ∈ vs, x = v1 ∨ x = v2) ∧ vs.length ≤ 2
theorem Row.exN {Lm : Hp → Addr → Sp → Prop} (hL : ∀ H H' f sp, Lm H f sp → ExtN H H' → Lm H' f sp) {cs : List Addr} {v1 v2 : V} {H H' : Hp} {v : V} (h : Row Lm K cs v1 v2 H v) (e : ExtN H H') : Row Lm K cs v1 v2 H' v := by
  obtain ⟨t, e0, f, l, j, fs, gs, vs, h1, h2, h3, h4, h5, h6, h7⟩ := h
  exact ⟨t, e0, f, l, j, fs, gs, vs, h1, e _ _ h2 (fun _ z => nomatch z), h3, h4.exN e, hL _ _ _ _ h5 e, e _ _ h6 (fun _ z => nomatch z), h7⟩
end
section
variable {σ : L2.St} {H : Hp} {Q : VK} {K : PySem.W.Frag}
theorem s_lstN {t : TA} (h : t σ H fun xs H1 => xs.length ≤ sizeLine ∧ ∀ p, H1 p = none → p ≠ sysModules → ap Q (.ref p) (upd H1 p (.lst xs))) : tLstN t σ H Q := h
theorem s_callF {P : Program} {w : World} {mg : Str → Option Value} {base : Heap} {k : Nat} {tf : TE} {ta : TA} (h : tf σ H fun fv H1 => ∃ (f : Addr) (sp : Sp), fv = .ref f ∧ LamAt P w K mg base k H1 f sp ∧ ta σ H1 fun vs H2 => ∃ v, vs = [v] ∧ LamAt P w K mg base k H2 f sp ∧ sp [v] H2 Q (fun _ _ _ => False)) : tCallF P w K mg base k tf ta σ H Q := h
def KindsAt (Lm : Hp → Addr → Sp → Prop) (K : PySem.W.Frag) (cs : List Addr) (H : Hp) (l : Addr) : Prop := ∃ xs, H l = some (.lst xs) ∧ xs.length = 26 ∧ ∀ j, j < 26 → ∃ f, xs[j]? = some (.ref f) ∧ Lm H f (spKind K (cs.getD j 0))
theorem KindsAt.exN {Lm : Hp → Addr → Sp → Prop} (hL : ∀ H H' f sp, Lm H f sp → ExtN H H' → Lm H' f sp) {cs : List Addr} {H H' : Hp} {l : Addr} (h : KindsAt Lm K cs H l) (e : ExtN H H') : KindsAt Lm K cs H' l := by
  obtain ⟨xs, h1, h2, h3⟩ := h
  exact ⟨xs, e _ _ h1 (fun _ z => nomatch z), h2, fun j hj => (h3 j hj).imp fun f h => ⟨h.1, hL _ _ _ _ h.2 e⟩⟩
end
end L3
end
section
namespace L3
open PySem PySem.Spec PyProof.Rows L2 LamX
inductive Pq (K : PySem.W.Frag) (H : Hp) : V → V → Bool → Prop
  | dat {x y : V} {d e : PyData} : Dp K H x d → Dp K H y e → SeqAt.shaped d = true → SeqAt.shaped e = true → Pq K H x y (PyData.eqv d e)
  | d0 {p : Addr} : H p = some (.dK []) → Pq K H (.ref p) (.ref p) true
  | d1 {p : Addr} {k v : Str} : H p = some (.dK [(.inr k, .str v)]) → Pq K H (.ref p) (.ref p) true
end L3
end
section
namespace L3
open PySem PySem.Spec PyProof.Rows L2 LamX
section
variable {K : PySem.W.Frag} {σ : L2.St} {H H' : Hp} {Q : VK} {C : Addr}
def PaAt (H : Hp) (q C : Addr) (fs : List (Str × V)) : Prop := ∃ dx, H q = some (.ins C dx fs)
theorem PaAt.exN {q : Addr} {fs : List (Str × V)} (h : PaAt H q C fs) (e : ExtN H H') : PaAt H' q C fs := h.imp fun _ h => e _ _ h fun _ z => nomatch z
theorem PaAt.ex {q : Addr} {fs : List (Str × V)} (h : PaAt H q C fs) (e : Ex H H') : PaAt H' q C fs := h.exN e.n
end
section
variable {K : PySem.W.Frag} {σ : L2.St} {H H' : Hp} {Q : VK} {C : Addr}
theorem Pq.ex {x y : V} {b : Bool} (h : Pq K H x y b) (e : Ex H H') : Pq K H' x y b := by
  have sl : ∀ a xs, SqL K H a xs → SqL K H' a xs := fun a xs h => by
    rcases h with (h | ⟨o, h⟩) | h
    · exact .inl (.inl (e _ _ h))
    · exact .inl (.inr ⟨o, e _ _ h⟩)
    · exact .inr h
  have st : ∀ a xs, SqT K H a xs → SqT K H' a xs := fun a xs h => by
    rcases h with (h | ⟨o, h⟩) | h
    · exact .inl (.inl (e _ _ h))
    · exact .inl (.inr ⟨o, e _ _ h⟩)
    · exact .inr h
  cases h with
  | dat h1 h2 h3 h4 => exact .dat (Dp.exN e.n _ _ sl st h1) (Dp.exN e.n _ _ sl st h2) h3 h4
  | d0 h => exact .d0 (e _ _ h)
  | d1 h => exact .d1 (e _ _ h)
def spTellP (K : PySem.W.Frag) (gs : List Str) : Sp := fun xs H Q _ => ∃ a C fs vs, xs = [.ref a] ∧ PaAt H a C fs ∧ Cls K C ∧ (∀ g ∈ gs, NoAttr K C g) ∧ gs.map (fun g => fs.lookup g) = vs.map some ∧
  ∀ p H', p ≠ sysModules → H p = none → Ex H H' → H' p = some (.lst vs) → Q (.ref p) H'
structure RowD where
  c : Nat
  fs : List (Str × V)
  gs : List Str
  vs : List V
  B : V
def RowAt (Lm : Hp → Addr → Sp → Prop) (K : PySem.W.Frag) (cs : List Addr) (H : Hp) (x : V) (r : RowD) : Prop := ∃ t e f l, x = .ref t ∧ H t = some (.tup [.ref e, .ref f, .ref l, r.B]) ∧ PaAt H e (cs.getD r.c 0) r.fs ∧ Lm H f (spTellP K r.gs) ∧ H l = some (.lst r.vs) ∧ l ≠ sysModules
theorem RowAt.exN {Lm : Hp → Addr → Sp → Prop} (hL : ∀ H H' f sp, Lm H f sp → ExtN H H' → Lm H' f sp) {cs : List Addr} {x : V} {r : RowD} (h : RowAt Lm K cs H x r) (e : ExtN H H') : RowAt Lm K cs H' x r := by
  obtain ⟨t, e0, f, l, h1, h2, h3, h4, h5, h6⟩ := h
  exact ⟨t, e0, f, l, h1, e _ _ h2 (fun _ z => nomatch z), h3.exN e, hL _ _ _ _ h4 e, e _ _ h5 (fun _ z => nomatch z), h6⟩
end
end L3
end
section
namespace L3
open PySem PySem.Calls PyProof.Rows
end L3
namespace L3
open PySem PySem.Spec PyProof.Rows L2 LamX StX RZ
structure McR (P : Program) (w : World) (K : PySem.W.Frag) (mg : Str → Option Value) (base : Heap) (CX : CXT) (k : Nat) (x : Str) (C : Addr) (sp : Sp) : Prop where
  ex : ∃ f, FnR P w K mg base CX k f sp ∧ mg x = some (.ref C) ∧ Mk K C f
section
variable {X : Cx} {CX : CXT} {k j : Nat} {C : Addr} {sp : Sp} {E : XK} {x : Str} {e e2 : Expr} {es : List Expr} {te : TE} {t : TA} {p sp_ pos : Pos}
theorem pe_mkR0 (c : McR X.prog X.w X.K X.mg X.base CX k x C sp) (hr : Room j X.A) (hx : Passes CX X E) (hk : k + 1 ≤ j := by decide) (gl : Gl X x := by rfl)
    (hdb : (x == ("__debug__" : Str)) = false := by decide) : PE X (.Call (.Name x p) [] [] pos) (tMakeR C sp E tNil) := by
  obtain ⟨f, F, m, M⟩ := c.ex
  refine ⟨fun pins s σ H Q I h => ?_⟩
  exact wpAny_Call_Name_kw (ld_glob I gl m (PySem.W.callWith_K0 I.kIn M.kp (run_makeR (us := []) (vs := []) M F (hr.mono hk) hx I .nil h)) hdb)
theorem pe_mkRS (c : McR X.prog X.w X.K X.mg X.base CX k x C sp) (hr : Room j X.A) (hx : Passes CX X E) (he : PE X e te) (hk : k + 1 ≤ j := by decide) (gl : Gl X x := by rfl)
    (hdb : (x == ("__debug__" : Str)) = false := by decide) (hst : starEach [.Starred e sp_] X.env = [(true, eval e X.env)] := by rfl) : PE X (.Call (.Name x p) [.Starred e sp_] [] pos) (tMakeR C sp E (tStar X.K te tNil)) := by
  obtain ⟨f, F, m, M⟩ := c.ex
  refine ⟨fun pins s σ H Q I h => ?_⟩
  refine wpAny_Call_Name_kw (ld_glob I gl m ?_ hdb)
  refine PySem.W.callWith_S (h₀ := X.base) I.ok.mod.kin M.kp (thn (he.run pins s σ H _ I h) fun v s1 ⟨y, H1, I1, ry, a, xs, ey, hxs, q⟩ => ?_) hst
  subst ey
  obtain rfl : v = Value.ref a := ry
  refine star_any I1 hxs fun us s2 I2 rv => ⟨I2.kIn, ?_⟩
  have q' := q
  unfold tNil at q'
  dsimp only at q'
  rw [List.append_nil] at q'
  exact run_makeR M F (hr.mono hk) hx I2 rv q'
end
/-- the promise of an __init__(self, *xs), by that of its body -/
def spSt (sp : Sp) : Sp := fun vs H Q E => ∃ ws rest, vs = ws ++ rest ∧ ws.length = 1 ∧ rest.length ≤ sizeLine ∧ ∀ p, H p = none → sp (ws ++ [V.ref p]) (upd H p (.tup rest)) Q E
section
variable {K : PySem.W.Frag} {σ : L2.St} {H : Hp} {Q : VK} {te ta : TE} {t : TA} {C : Addr} {sp : Sp} {E : XK}
theorem s_star {R : List V → Hp → Prop} (h : te σ H fun x H1 => ∃ p xs, x = V.ref p ∧ (SqT K H1 p xs ∨ SqL K H1 p xs) ∧ t σ H1 fun ys H2 => R (xs ++ ys) H2) : tStar K te t σ H R := h
theorem s_mkCR (h : t σ H fun vs H1 => ∀ x dx, H1 x = none → H1 dx = none → dx ≠ x → sp (V.ref x :: vs) (upd (upd H1 dx (.own x)) x (.ins C dx [])) (fun v H2 => v = .non ∧ ap Q (.ref x) H2) E) : tMakeR C sp E t σ H Q := h
end
/-- a def with one parameter ahead of *xs -/
theorem funStar {P : Program} {w : World} {K : PySem.W.Frag} {mg : Str → Option Value} {base : Heap} {k : Nat} {x qual : Str} {st : Stmt} {f : Addr} {fd : FuncData} {N : List Str} {p1 pv : Str} {sp : Sp} (F : L2.Fun K x qual st f fd) (S : FnScope N [p1, pv] (defScope st))
    (h0 : ∀ (kV doc pm : Value) (an : Option Addr) (cdv ct : Value) a, bindArgs (PySem.W.fnOf x qual (defArgs st) (defBody st) (defScope st) .none kV doc pm an cdv ct) ⟨[a], []⟩ = (newTuple [] >>= fun t => pure [(p1, a), (pv, t)]))
    (h1 : ∀ (kV doc pm : Value) (an : Option Addr) (cdv ct : Value) a r rs, bindArgs (PySem.W.fnOf x qual (defArgs st) (defBody st) (defScope st) .none kV doc pm an cdv ct) ⟨a :: r :: rs, []⟩ = (newTuple (r :: rs) >>= fun t => pure [(p1, a), (pv, t)]))
    (body : ∀ (cd : Value) (A : Around) (fr : List Env) (s : Shared) (H : Hp) (vs : List V) (Q : VK) (E : XK), Room k (A.deeper (envOfC qual (defScope st) s.heap.objs.size f cd)) → sp vs H Q E →
      ∃ t, PSs (cxOf (L2.CX P w) P w K mg base N qual (defScope st) f cd A fr s H E) (defBody st) t ∧ t { nx := fun _ H' => Q .non H', rt := Q } (L2.start N vs) H) :
    FnR P w K mg base (L2.CX P w) (k + 1) f (spSt sp) := by
  obtain ⟨oc, od, kV, doc, pm, an, cd, ct, sl, rfl, lk, hcd⟩ := F.ex
  exact fn_star (ps := [p1]) (pv := pv) lk hcd S cxUp (bind_star1 (B := fun us => bindArgs (PySem.W.fnOf x qual (defArgs st) (defBody st) (defScope st) .none kV doc pm an cd ct) ⟨us, []⟩) (h0 kV doc pm an cd ct) (h1 kV doc pm an cd ct)) fun A outer s H vs Q E hr h => body cd A outer s H vs Q E hr h
theorem TyA.exN {K : PySem.W.Frag} {H H' : Hp} {v : V} {t : Value} (h : TyA K H v t) (e : ExtN H H') : TyA K H' v t := by
  cases h with
  | x h =>
    refine .x ?_
    cases h with
    | base h =>
      refine .base ?_
      cases h with
      | non => exact .non
      | bl b => exact .bl b
      | int i => exact .int i
      | str z => exact .str z
      | flt z => exact .flt z
      | lst h => exact .lst (e _ _ h fun _ z => nomatch z)
      | frz h => exact .frz (e _ _ h fun _ z => nomatch z)
      | tup h => exact .tup (e _ _ h fun _ z => nomatch z)
      | dK h => exact .dK (e _ _ h fun _ z => nomatch z)
      | dT h => exact .dT (e _ _ h fun _ z => nomatch z)
      | ins h a b c d f => exact .ins (e _ _ h fun _ z => nomatch z) a b c d f
    | byt b => exact .byt b
    | set h => exact .set (e _ _ h fun _ z => nomatch z)
    | kList h c => exact .kList h c
    | kTuple h c => exact .kTuple h c
    | kDict h c => exact .kDict h c
    | fTuple h => exact .fTuple (e _ _ h fun _ z => nomatch z)
    | fDict h => exact .fDict (e _ _ h fun _ z => nomatch z)
  | fn h => exact .fn (e _ _ h fun _ z => by unfold FnV at z; cases z)
/-- a value that is no number -/
def NI (K : PySem.W.Frag) (H : Hp) (v : V) : Prop := (∃ b, v = .bl b) ∨ ∃ ty, TyA K H v ty ∧ PySem.W.kitOne K ty (.type "int") = some false
/-- a value that is none of a class -/
def NC (K : PySem.W.Frag) (H : Hp) (u : Value) (v : V) : Prop := ∃ ty, TyA K H v ty ∧ PySem.W.kitOne K ty u = some false
theorem NI.exN {K : PySem.W.Frag} {H H' : Hp} {v : V} (h : NI K H v) (e : ExtN H H') : NI K H' v := h.imp id fun ⟨ty, a, b⟩ => ⟨ty, a.exN e, b⟩
theorem NC.exN {K : PySem.W.Frag} {H H' : Hp} {u : Value} {v : V} (h : NC K H u v) (e : ExtN H H') : NC K H' u v := by
  obtain ⟨ty, a, b⟩ := h
  exact ⟨ty, a.exN e, b⟩
/-- no number, or one beyond its bounds -/
def OutS (K : PySem.W.Frag) (H : Hp) (x : V) (a b : Int) : Prop := NI K H x ∨ ∃ i, x = .int i ∧ ¬ (a ≤ i ∧ i ≤ b)
theorem OutS.exN {K : PySem.W.Frag} {H H' : Hp} {x : V} {a b : Int} (h : OutS K H x a b) (e : ExtN H H') : OutS K H' x a b := h.imp (fun h => h.exN e) id
def spIsI2 (K : PySem.W.Frag) : Sp := fun vs H Q _ => ∃ x, vs = [x] ∧ ((∃ i, x = .int i ∧ Q (.bl true) H) ∨ (NI K H x ∧ Q (.bl false) H))
def spWithin2 (K : PySem.W.Frag) : Sp := fun vs H Q _ => ∃ x a b, vs = [x, .int a, .int b] ∧ ((∃ i, x = .int i ∧ a ≤ i ∧ i ≤ b ∧ Q (.bl true) H) ∨ (OutS K H x a b ∧ Q (.bl false) H))
def spSize2 (K : PySem.W.Frag) : Sp := fun vs H Q _ => ∃ x, vs = [x] ∧ ((∃ i, x = .int i ∧ 1 ≤ i ∧ i ≤ 10 ^ 30 ∧ Q (.bl true) H) ∨ (OutS K H x 1 (10 ^ 30) ∧ Q (.bl false) H))
section
variable {K : PySem.W.Frag} {σ : L2.St} {H : Hp} {Q : VK}
theorem s_lcZ {te : TE} {g : TG} {tt : TT} {vs : List Nat} {ta : TA} (h : ta σ H fun ws H1 => ∃ a b xs ys, ws = [.ref a, .ref b] ∧ ((SqL K H1 a xs ∧ SqL K H1 b ys ∧ LC (Itz K a b) g tt te vs σ H1 Q) ∨ (SqT K H1 a xs ∧ SqT K H1 b ys ∧ LC (ItzT K a b) g tt te vs σ H1 Q))) : tLc (iZipA K ta) g tt te vs σ H Q := h
theorem walk_zipT {a b : Addr} {xs ys : List V} {n : Nat} (hn : n = min xs.length ys.length) : L2.Walk (ItzT K a b) n (fun H => SqT K H a xs ∧ SqT K H b ys) (YPair (fun i => xs[i]?) (fun i => ys[i]?)) := by
  subst hn
  refine ⟨fun i _ hi q => ?_, fun _ q => ⟨xs, ys, q.1, q.2, by omega⟩, fun i H v H' _ q y => ?_⟩
  · have h1 : i < xs.length := by omega
    have h2 : i < ys.length := by omega
    exact ⟨xs, ys, xs[i], ys[i], q.1, q.2, by simp [h1], by simp [h2]⟩
  · obtain ⟨T, x, z, h1, h2, h3, h4, h5⟩ := y
    exact ⟨T, x, z, h1, h2, h3, h4 xs q.1, h5 ys q.2⟩
/-- [f(x, y) for x, y in zip(t, u)], t and u tuples -/
theorem lcZT {a b : Addr} {xs ys : List V} {i j : Nat} {te : TE} {vs : List Nat} (f : Nat → V) (hl : xs.length = ys.length) (ha : H a = some (.tup xs)) (hb : H b = some (.tup ys)) (hz : xs.length < sizeLine)
    (hw : ∀ x y, wipe (((wipe σ vs).set i (some x)).set j (some y)) vs = wipe σ vs)
    (he : ∀ (n : Nat) (x y : V) (H1 : Hp) (R : VK), xs[n]? = some x → ys[n]? = some y → Ex H H1 → R (f n) H1 → te (((wipe σ vs).set i (some x)).set j (some y)) H1 R)
    (k : ∀ D H2, H D = none → Ex H H2 → H2 D = some (.lst ((List.range xs.length).map f)) → Q (.ref D) H2) :
    LC (ItzT K a b) (gTup K 2 (gCons (gName i) (gCons (gName j) gNil))) tYes te vs σ H Q := by
  intro D hD
  refine lc_it (walk_zipT (n := xs.length) (by rw [← hl, Nat.min_self])) (fun n H1 => Ex H H1 ∧ H1 D = some (.lst ((List.range n).map f))) ⟨ex_new hD, upd_same⟩ (fun n H1 _ ⟨e, _⟩ => ⟨.inl (.inl (e _ _ ha)), .inl (.inl (e _ _ hb))⟩) ?_ (fun H1 ⟨e, h1⟩ => k D H1 hD e h1)
  rintro n x H1 H2 hn ⟨e, h1⟩ ⟨T, x', y', rfl, hT, rfl, hx, hy⟩
  have e2 : Ex H1 (upd H1 T (.tup [x', y'])) := ex_new hT
  refine s_gT (xs := [x', y']) upd_same rfl ?_
  refine s_gC (s_gC (s_gN ?_))
  refine ⟨hw _ _, ?_⟩
  unfold tYes
  dsimp only
  refine iteT (he n x' y' _ _ hx hy (e.trans e2) ⟨_, e2 _ _ h1, ?_, fun c o hc => ?_, ?_⟩)
  · rw [List.length_map, List.length_range]; omega
  · rw [upd_ne (ne_of_none hc hD)]; exact e2 _ _ (e _ _ hc)
  · rw [upd_same, List.range_succ, List.map_append]; rfl
end
def siz (n : Int) : Prop := 1 ≤ n ∧ n ≤ 10 ^ 30
def endsF : Int → List Int → List Int
  | _, [] => []
  | a, n :: r => (a + n) :: endsF (a + n) r
def endsOf (ns : List Int) : List Int := endsF 0 ns
theorem endsF_len : ∀ (ns : List Int) (a : Int), (endsF a ns).length = ns.length
  | [], _ => rfl
  | n :: r, a => by rw [endsF, List.length_cons, endsF_len r, List.length_cons]
theorem endsF_snoc : ∀ (ns : List Int) (a n : Int), endsF a (ns ++ [n]) = endsF a ns ++ [a + ns.sum + n]
  | [], a, n => by simp [endsF]
  | m :: r, a, n => by
    rw [List.cons_append, endsF, endsF, endsF_snoc r, List.cons_append, List.sum_cons, Int.add_assoc a m]
theorem endsOf_len (ns : List Int) : (endsOf ns).length = ns.length := endsF_len ns 0
theorem endsOf_snoc (ns : List Int) (n : Int) : endsOf (ns ++ [n]) = endsOf ns ++ [ns.sum + n] := by
  have := endsF_snoc ns 0 n
  rw [Int.zero_add] at this
  exact this
theorem take_snoc {α : Type} {l : List α} {i : Nat} {x : α} (h : l[i]? = some x) : l.take (i + 1) = l.take i ++ [x] := by
  rw [List.take_add_one, h]; rfl
def restsOf (ns : List Int) : List Int := (List.range ns.length).map fun i => ns.sum - (endsOf ns).getD i 0 + ns.getD i 0
def ckF (t1 t2 t3 : Addr) (tot : Int) : List (Str × V) := putF "rests" (.ref t3) (putF "total" (.int tot) (putF "ends" (.ref t2) (putF "sizes" (.ref t1) [])))
def Ck (C : Addr) (H : Hp) (q : Addr) (ns : List Int) : Prop := ∃ dx t1 t2 t3, H q = some (.ins C dx (ckF t1 t2 t3 ns.sum)) ∧ H t1 = some (.tup (ns.map V.int)) ∧ H t2 = some (.tup ((endsOf ns).map V.int)) ∧ H t3 = some (.tup ((restsOf ns).map V.int))
theorem Ck.exN {C : Addr} {H H' : Hp} {q : Addr} {ns : List Int} (h : Ck C H q ns) (e : ExtN H H') : Ck C H' q ns := by
  obtain ⟨dx, t1, t2, t3, a, b, c, d⟩ := h
  exact ⟨dx, t1, t2, t3, e _ _ a (fun _ z => nomatch z), e _ _ b (fun _ z => nomatch z), e _ _ c (fun _ z => nomatch z), e _ _ d (fun _ z => nomatch z)⟩
theorem Ck.ex {C : Addr} {H H' : Hp} {q : Addr} {ns : List Int} (h : Ck C H q ns) (e : Ex H H') : Ck C H' q ns := h.exN e.n
theorem Rz.ex' {C : Addr} {g : Str} {v : V} {H H' : Hp} {E : XK} (h : Rz C g v H E) (e : Ex H H') : Rz C g v H' E := fun d H2 hd e2 hx => h d H2 (e.free hd) (e.trans e2) hx
/-- what Chunks(*xs) comes to -/
def CkG (K : PySem.W.Frag) (CB CM : Addr) (H : Hp) (xs : List V) (G : List Int → Prop) (E : XK) : Prop := xs.length ≤ 100000 ∧
  ((∃ ns : List Int, xs = ns.map V.int ∧ (∀ n ∈ ns, siz n) ∧ ((ns.length ≤ 5000 ∧ G ns) ∨ (5000 < ns.length ∧ Rz2 CM "what" "most" (.str "chunks") (.int 5000) H E))) ∨
   ∃ (ns : List Int) (z : V) (rest : List V), xs = ns.map V.int ++ z :: rest ∧ (∀ n ∈ ns, siz n) ∧ OutS K H z 1 (10 ^ 30) ∧ Rz CB "value" z H E)
theorem CkG.ex {K : PySem.W.Frag} {CB CM : Addr} {H H' : Hp} {xs : List V} {G G' : List Int → Prop} {E : XK} (h : CkG K CB CM H xs G E) (e : Ex H H') (g : ∀ ns, G ns → G' ns) : CkG K CB CM H' xs G' E := by
  obtain ⟨h0, ⟨ns, h1, h2, h3⟩ | ⟨ns, z, rest, h1, h2, h3, h4⟩⟩ := h
  · exact ⟨h0, .inl ⟨ns, h1, h2, h3.imp (fun ⟨a, b⟩ => ⟨a, g _ b⟩) fun ⟨a, b⟩ => ⟨a, b.ex e⟩⟩⟩
  · exact ⟨h0, .inr ⟨ns, z, rest, h1, h2, h3.exN e.n, h4.ex' e⟩⟩
def spCk0 (K : PySem.W.Frag) (C CB CM : Addr) : Sp := fun vs H Q E => ∃ p dx t xs, vs = [.ref p, .ref t] ∧ H p = some (.ins C dx []) ∧ t ≠ p ∧ H t = some (.tup xs) ∧ CkG K CB CM H xs (fun ns => ∀ H', (∀ c o, c ≠ p → H c = some o → H' c = some o) → Ck C H' p ns → Q .non H') E
abbrev spCk (K : PySem.W.Frag) (C CB CM : Addr) : Sp := spSt (spCk0 K C CB CM)
def spNeedSize (K : PySem.W.Frag) (CB : Addr) : Sp := fun vs H Q E => ∃ x, vs = [x] ∧ ((∃ i, x = .int i ∧ siz i ∧ Q .non H) ∨ (OutS K H x 1 (10 ^ 30) ∧ Rz CB "value" x H E))
def spNeedFew (CM : Addr) : Sp := fun vs H Q E => ∃ n, vs = [.int n] ∧ ((n ≤ 5000 ∧ Q .non H) ∨ (5000 < n ∧ Rz2 CM "what" "most" (.str "chunks") (.int 5000) H E))
def spEnds : Sp := fun vs H Q _ => ∃ t ns, vs = [.ref t] ∧ H t = some (.tup ((ns : List Int).map V.int)) ∧ ns.length ≤ 100000 ∧ ∀ p H', H p = none → Ex H H' → H' p = some (.tup ((endsOf ns).map V.int)) → Q (.ref p) H'
theorem s_mkCk {K : PySem.W.Frag} {C CB CM : Addr} {H : Hp} {Q : VK} {E : XK} {xs : List V} (h : CkG K CB CM H xs (fun ns => ∀ q H', H q = none → Ex H H' → Ck C H' q ns → Q (.ref q) H') E) :
    ∀ x dx, H x = none → H dx = none → dx ≠ x → spCk K C CB CM (V.ref x :: xs) (upd (upd H dx (.own x)) x (.ins C dx [])) (fun v H2 => v = .non ∧ ap Q (.ref x) H2) E := by
  intro x dx hx hd hn
  have e1 : Ex H (upd (upd H dx (.own x)) x (.ins C dx [])) := fun c o hc => by
    rw [upd_ne (ne_of_none hc hx), upd_ne (ne_of_none hc hd)]; exact hc
  refine ⟨[.ref x], xs, rfl, rfl, Nat.le_trans h.1 (by decide), fun t ht => ?_⟩
  have e2 := e1.trans (ex_new (o := .tup xs) ht)
  have hxt : x ≠ t := fun z => by rw [← z, upd_same] at ht; cases ht
  refine ⟨x, dx, t, xs, rfl, by rw [upd_ne hxt, upd_same], hxt.symm, upd_same, h.ex e2 fun ns g H' k hc => ⟨rfl, g x H' hx (fun c o hc => k c o (ne_of_none hc hx) (e2 _ _ hc)) hc⟩⟩
end L3
end
section
namespace L3
open PySem PySem.Spec PyProof.Rows L2 LamX
structure ClT (K : PySem.W.Frag) (mg : Str → Option Value) (x : Str) (C : Addr) : Prop where
  g : ∃ u, mg x = some u ∧ RelV (.ref C) u
  cl : Cls K C
  kC : PySem.W.kitOne K (.ref C) (.ref C) = some true
  ha : PySem.W.findIn K (.ref C) "__class__" = some (some (.builtin "object.__class__"))
  hn : PySem.W.specialIn K (.builtin "object.__class__") "__get__" = some (some (.builtin "getset_descriptor.__get__"))
  htk : PySem.W.takesIn K (.builtin "object.__class__") = some true
  hm : PySem.W.mroIn K C (.type "object") = some true
theorem ClT.ty {K : PySem.W.Frag} {mg : Str → Option Value} {x : Str} {C : Addr} (T : ClT K mg x C) {H : Hp} {p dx : Addr} {fs : List (Str × V)} (e : H p = some (.ins C dx fs)) : TyA K H (.ref p) (.ref C) := .x (.base (.ins e T.cl T.ha T.hn T.htk T.hm))
structure ErT (K : PySem.W.Frag) (mg : Str → Option Value) (x : Str) (C CL : Addr) (fs : List Str) : Prop where
  g : ∃ u, mg x = some u ∧ RelV (.ref C) u
  exc : ExcC K C
  xf : XfC K C
  nV : ∀ f ∈ fs, PySem.W.findIn K (.ref C) f = some none
  kB : PySem.W.kitOne K (.ref C) (.ref C) = some true
  em : PySem.W.exmOne K (.ref C) (.ref CL) = some true
  kV : PySem.W.kitOne K (.ref C) (.type "ValueError") = some true
/-- neither a list nor a tuple -/
def NLT (K : PySem.W.Frag) (H : Hp) (v : V) : Prop := ∃ t, TyX K H v t ∧ PySem.W.kitAny K t [.type "list", .type "tuple"] = some false
theorem TyX.exN {K : PySem.W.Frag} {H H' : Hp} {v : V} {t : Value} (h : TyX K H v t) (e : ExtN H H') : TyX K H' v t := by
  cases h with
  | base h =>
    refine .base ?_
    cases h with
    | non => exact .non
    | bl b => exact .bl b
    | int i => exact .int i
    | str z => exact .str z
    | flt z => exact .flt z
    | lst h => exact .lst (e _ _ h fun _ z => nomatch z)
    | frz h => exact .frz (e _ _ h fun _ z => nomatch z)
    | tup h => exact .tup (e _ _ h fun _ z => nomatch z)
    | dK h => exact .dK (e _ _ h fun _ z => nomatch z)
    | dT h => exact .dT (e _ _ h fun _ z => nomatch z)
    | ins h a b c d f => exact .ins (e _ _ h fun _ z => nomatch z) a b c d f
  | byt b => exact .byt b
  | set h => exact .set (e _ _ h fun _ z => nomatch z)
  | kList h c => exact .kList h c
  | kTuple h c => exact .kTuple h c
  | kDict h c => exact .kDict h c
  | fTuple h => exact .fTuple (e _ _ h fun _ z => nomatch z)
  | fDict h => exact .fDict (e _ _ h fun _ z => nomatch z)
theorem NLT.exN {K : PySem.W.Frag} {H H' : Hp} {v : V} (h : NLT K H v) (e : ExtN H H') : NLT K H' v := by
  obtain ⟨t, a, b⟩ := h
  exact ⟨t, L3.TyX.exN a e, b⟩
/-- own == of lists of chunks -/
def spCkEq (K : PySem.W.Frag) (C : Addr) : Sp := fun vs H Q _ => ∃ p y ns, vs = [.ref p, y] ∧ Ck C H p ns ∧ ((∃ q ms, y = .ref q ∧ Ck C H q ms ∧ Q (.bl (decide (ns = ms))) H) ∨ (NC K H (.ref C) y ∧ Q (.bl false) H))
section
variable {K : PySem.W.Frag} {H H' : Hp} {Q : VK} {C CB CM : Addr} {E : XK}
theorem get_int {ns : List Int} {i : Nat} {x : V} (h : (ns.map V.int)[i]? = some x) : ∃ n, ns[i]? = some n ∧ x = .int n := by
  rw [List.getElem?_map] at h
  cases e : ns[i]? with
  | none => rw [e] at h; cases h
  | some n => rw [e] at h; cases h; exact ⟨n, rfl, rfl⟩
theorem sz100k {n : Nat} (h : n ≤ 100000) : n < sizeLine := Nat.lt_of_le_of_lt h (by decide)
theorem endsOf_take (ns : List Int) : ∀ i, i ≤ ns.length → endsOf (ns.take i) = (endsOf ns).take i := by
  have h : ∀ (ns : List Int) (a : Int) (i : Nat), endsF a (ns.take i) = (endsF a ns).take i := by
    intro ns
    induction ns with
    | nil => intro a i; simp [endsF]
    | cons n r ih =>
      intro a i
      cases i with
      | zero => rfl
      | succ i => rw [List.take_succ_cons, endsF, endsF, List.take_succ_cons, ih]
  exact fun i _ => h ns 0 i
theorem endsOf_get {ns : List Int} {i : Nat} (h : i < ns.length) : (endsOf ns)[i]? = some ((ns.take (i + 1)).sum) := by
  have hx : ns[i]? = some ns[i] := List.getElem?_eq_getElem h
  have e1 := endsOf_take ns (i + 1) (by omega)
  rw [take_snoc hx, endsOf_snoc] at e1
  have e2 : (endsOf (ns.take i) ++ [(ns.take i).sum + ns[i]])[i]? = some ((ns.take i).sum + ns[i]) := by
    rw [List.getElem?_append_right (by rw [endsOf_len, List.length_take]; omega), endsOf_len, List.length_take, Nat.min_eq_left (by omega), Nat.sub_self]; rfl
  rw [e1, List.getElem?_take, if_pos (by omega)] at e2
  rw [e2, take_snoc hx, List.sum_append, List.sum_cons, List.sum_nil, Int.add_zero]
theorem endsOf_last {ns : List Int} (h : ns ≠ []) : atI ((endsOf ns).map V.int) (-1) = some (.int ns.sum) := by
  have hl : 0 < ns.length := by cases ns with | nil => exact absurd rfl h | cons _ _ => simp
  have e : (endsOf ns)[ns.length - 1]? = some ns.sum := by
    rw [endsOf_get (by omega), Nat.sub_add_cancel hl, List.take_length]
  have : atI ((endsOf ns).map V.int) (-1) = ((endsOf ns).map V.int)[ns.length - 1]? := by
    unfold atI
    have hn : ((endsOf ns).map V.int).length = ns.length := by rw [List.length_map, endsOf_len]
    rw [hn]
    have hi : ixN ns.length (-1) = some (ns.length - 1) := by
      unfold ixN
      rw [if_neg (by decide), if_pos (by omega)]
      congr 1
      omega
    rw [hi]; rfl
  rw [this, List.getElem?_map, e]; rfl
end
end L3
end
section
local macro_rules | `(tactic| tm_at "s1") => `(tactic| first
  | with_reducible first
    | refine L3.s_seq ?_ | refine L3.s_asg ?_ | refine L3.s_op ?_ | refine L3.s_c ?_ | refine L3.s_cb ?_ | refine L3.s_cons ?_ | refine L3.s_nil ?_ | refine L3.s_test ?_ | refine L3.s_bl ?_
    | refine L3.s_I0 ?_ | refine L3.s_and ?_ | refine L3.s_or ?_ | refine L3.s_not ?_ | refine L3.s_if ?_ | refine L3.s_next ?_ | refine L3.s_ret ?_ | refine L3.s_retN ?_ | refine L3.s_asgS ?_ | refine L3.s_drop ?_
    | refine L3.s_un ?_ | refine L3.s_U ?_ | refine L3.s_int ?_ | refine L3.s_intB ?_ | refine L3.s_abs ?_ | refine L3.s_andV ?_ | refine L3.s_orV ?_ | refine L3.s_notV ?_ | refine L3.s_ifE ?_ | refine L3.s_call ?_ | refine L3.s_lst ?_ | refine L3.s_tup ?_ | refine L3.s_tB ?_
    | refine L3.s_addI ?_ | refine L3.s_inS ?_ | refine L3.s_ninS ?_ | refine L3.s_slice ?_ | refine L3.s_part ?_ | refine L3.s_partI ?_ | refine L3.s_nopart ?_ | refine L3.s_cI ?_ | refine L3.s_cB ?_ | refine L3.s_chain ?_ | refine L3.s_bm ?_ | refine L3.s_lcS ?_ | refine L3.s_lcR ?_ | refine L3.s_strE ?_
    | refine L2.iteT ?_ | refine L2.iteF ?_ | refine L3.iteNF ?_ | refine L3.iteNT ?_
    | refine L3.s_eqI ?_ | refine L3.s_neI ?_ | refine L3.s_eqS ?_ | refine L3.s_neS ?_
    | refine L3.s_pair ?_ | refine L3.s_pair2 ?_ | refine L3.s_fld ?_ | refine L3.s_make ?_ | refine L3.s_m1 ?_ | refine L3.s_isstr ?_
    | refine L3.s_xfV ?_ | refine L3.s_lstN ?_ | refine L3.s_callF ?_ | refine L3.s_lcL ?_ | refine L3.s_par3 ?_ | refine L3.s_trip ?_ | refine L3.s_asgT' ?_ | refine L3.s_gC ?_ | refine L3.s_gN ?_ | refine L3.s_fldG ?_ | refine L3.s_raise1 ?_ | refine L3.s_raise2 ?_ | refine L3.s_star ?_ | refine L3.s_mkCR ?_ | refine L3.s_lcZ ?_ | refine L3.s_forL ?_ | refine L3.s_forT ?_ | refine L3.s_gNm ?_ | refine L3.s_forE ?_ | refine L3.s_stC ?_ | refine L3.s_cmC ?_ | refine L3.s_forR1 ?_ | refine L3.s_lcTp ?_ | refine L3.s_forZ ?_ | refine L3.s_orT ?_
    | refine L3.s_isN ?_ | refine L3.s_isB ?_ | refine L3.s_nisN ?_ | refine L3.s_nisB ?_
  | ((with_reducible refine' L3.s_var ?e ?_); (case e => rfl))
  | ((with_reducible refine' L3.s_aug ?e ?_); (case e => rfl))
  | ((with_reducible refine' L3.s_pow ?c ?_); (case c => exact ⟨by decide, by decide, by decide⟩)))
local macro_rules | `(tactic| tm_at "s") => `(tactic| repeat tm_at "s1")
namespace K13
open PySem PySem.Spec PyProof.Rows L2 L3 LamX RZ
def topS (i : Nat) : Stmt := PySem.Challenge.pw_latechunks_k13_even_shared_and_tapered_l.main.body.getD i (.Pass ⟨0, 0, 0, 0⟩)
structure Txt (K : PySem.W.Frag) (mg : Str → Option Value) (C CB CC CM CL CT CN CW : Addr) : Prop where
  b_isinstance : mg "isinstance" = none
  b_int : mg "int" = none
  b_bool : mg "bool" = none
  b_len : mg "len" = none
  b_abs : mg "abs" = none
  b_list : mg "list" = none
  b_tuple : mg "tuple" = none
  b_range : mg "range" = none
  b_repr : mg "repr" = none
  b_str : mg "str" = none
  b_zip : mg "zip" = none
  b_min : mg "min" = none
  b_max : mg "max" = none
  b_all : mg "all" = none
  b_sorted : mg "sorted" = none
  b_enumerate : mg "enumerate" = none
  b_ValueError : mg "ValueError" = none
  g_LateError : mg "LateError" = some (.ref CL)
  c : ClT K mg "Chunks" C
  s : ErT K mg "BadSize" CB CL ["value"]
  r : ErT K mg "BadChunks" CC CL ["part"]
  m : ErT K mg "TooMany" CM CL ["what", "most"]
  n : ErT K mg "NoChunk" CN CL ["at"]
  t : ErT K mg "BadTotal" CT CL ["value"]
  w : ErT K mg "BadText" CW CL ["line", "word"]
  kMW : PySem.W.kitOne K (.ref CM) (.ref CW) = some false
  kWM : PySem.W.kitOne K (.ref CW) (.ref CM) = some false
  kCI : PySem.W.kitOne K (.ref C) (.type "int") = some false
  kCS : PySem.W.kitOne K (.ref C) (.type "str") = some false
  kCLT : PySem.W.kitAny K (.ref C) [.type "list", .type "tuple"] = some false
  kTC : (["int", "NoneType", "bool", "str", "tuple", "list", "dict"].all fun T => decide (PySem.W.kitOne K (.type T) (.ref C) = some false)) = true
  cmp : CmpF K C
  nS : NoAttr K C "sizes"
  nE : NoAttr K C "ends"
  nT : NoAttr K C "total"
  nR : NoAttr K C "rests"
  g_MOST_SIZE : ∃ u, mg "MOST_SIZE" = some u ∧ RelV (.int (10 ^ 30)) u
  g_MOST_CHUNKS : ∃ u, mg "MOST_CHUNKS" = some u ∧ RelV (.int 5000) u
  g_MOST_ITEMS : ∃ u, mg "MOST_ITEMS" = some u ∧ RelV (.int (10 ^ 30)) u
  g_MOST_FIGURES : ∃ u, mg "MOST_FIGURES" = some u ∧ RelV (.int 4000) u
  digits : PySem.W.nsIn K cStatics "sys.int_max_str_digits" = some none
section
variable {K : PySem.W.Frag} {mg : Str → Option Value} {C CB CC CM CL CT CN CW : Addr}
theorem Txt.g_Chunks (T : Txt K mg C CB CC CM CL CT CN CW) : ∃ u, mg "Chunks" = some u ∧ RelV (.ref C) u := T.c.g
theorem Txt.g_BadSize (T : Txt K mg C CB CC CM CL CT CN CW) : ∃ u, mg "BadSize" = some u ∧ RelV (.ref CB) u := T.s.g
theorem Txt.g_BadChunks (T : Txt K mg C CB CC CM CL CT CN CW) : ∃ u, mg "BadChunks" = some u ∧ RelV (.ref CC) u := T.r.g
theorem Txt.g_TooMany (T : Txt K mg C CB CC CM CL CT CN CW) : ∃ u, mg "TooMany" = some u ∧ RelV (.ref CM) u := T.m.g
theorem Txt.g_NoChunk (T : Txt K mg C CB CC CM CL CT CN CW) : ∃ u, mg "NoChunk" = some u ∧ RelV (.ref CN) u := T.n.g
theorem Txt.g_BadTotal (T : Txt K mg C CB CC CM CL CT CN CW) : ∃ u, mg "BadTotal" = some u ∧ RelV (.ref CT) u := T.t.g
end
abbrev s_is_integer : Stmt := topS 3
theorem sc_is_integer : FnScope ["value"] ["value"] (defScope s_is_integer) := ⟨rfl, rfl, rfl, by decide +kernel, rfl, by decide +kernel, by decide +kernel⟩
abbrev s_is_within : Stmt := topS 4
theorem sc_is_within : FnScope ["value", "least", "most"] ["value", "least", "most"] (defScope s_is_within) := ⟨rfl, rfl, rfl, by decide +kernel, rfl, by decide +kernel, by decide +kernel⟩
abbrev s_is_size : Stmt := topS 5
theorem sc_is_size : FnScope ["value"] ["value"] (defScope s_is_size) := ⟨rfl, rfl, rfl, by decide +kernel, rfl, by decide +kernel, by decide +kernel⟩
abbrev s_need_size : Stmt := topS 21
theorem sc_need_size : FnScope ["value"] ["value"] (defScope s_need_size) := ⟨rfl, rfl, rfl, by decide +kernel, rfl, by decide +kernel, by decide +kernel⟩
abbrev s_need_few : Stmt := topS 23
theorem sc_need_few : FnScope ["many"] ["many"] (defScope s_need_few) := ⟨rfl, rfl, rfl, by decide +kernel, rfl, by decide +kernel, by decide +kernel⟩
abbrev s_ends_of : Stmt := topS 25
theorem sc_ends_of : FnScope ["sizes", "found", "total", "size"] ["sizes"] (defScope s_ends_of) := ⟨rfl, rfl, rfl, by decide +kernel, rfl, by decide +kernel, by decide +kernel⟩
abbrev s_Chunks___init__ : Stmt := inClass (topS 28) 1
abbrev names_Chunks___init__ : List Str := ["self", "sizes", "size", "end"]
theorem sc_Chunks___init__ : FnScope ["self", "sizes", "size", "end"] ["self", "sizes"] (defScope s_Chunks___init__) := ⟨rfl, rfl, rfl, by decide +kernel, rfl, by decide +kernel, by decide +kernel⟩
section
variable {P : Program} {w : World} {K : PySem.W.Frag} {mg : Str → Option Value} {base : Heap} {C CB CC CM CL CT CN CW : Addr}
theorem ok_is_integer {f : Addr} {fd : FuncData} (F : Fun K "is_integer" "is_integer" s_is_integer f fd) (T : Txt K mg C CB CC CM CL CT CN CW) : FnOk P w K mg base CX0 1 f fd ["value"] (spIsI2 K) := by
  refine funO F sc_is_integer (fun vs H Q E h => ?_) (fun cd A fr s H vs Q E hr h => ?_)
  · obtain ⟨x, rfl, _⟩ := h; rfl
  · obtain ⟨x, rfl, ⟨i, rfl, k⟩ | ⟨⟨b, rfl⟩ | ⟨ty, h1, h2⟩, k⟩⟩ := h
    · refine ⟨_, (pss_one (ps_ret (pe_and (pe_callB (KX.callIsi (K := K)) (by rfl) T.b_isinstance (by decide +kernel) (pa_cons (pv 0) (pa_cons (pe_bltn (v := .ty "int") (u := .type "int") (by rfl) T.b_int (by decide +kernel) rfl) pa_nil))) (pe_one (pe_not (pe_callB (KX.callIsi (K := K)) (by rfl) T.b_isinstance (by decide +kernel) (pa_cons (pv 0) (pa_cons (pe_bltn (v := .ty "bool") (u := .type "bool") (by rfl) T.b_bool (by decide +kernel) rfl) pa_nil)))))))), ?_⟩
      tm_at "s"
      refine s_isiT (.x (.base (.int i))) (b := true) (kit_ty (by decide +kernel)) ?_
      tm_at "s"
      refine s_isiT (.x (.base (.int i))) (b := false) (kit_ty (by decide +kernel)) ?_
      tm_at "s"
      exact k
    · refine ⟨_, (pss_one (ps_ret (pe_and (pe_callB (KX.callIsi (K := K)) (by rfl) T.b_isinstance (by decide +kernel) (pa_cons (pv 0) (pa_cons (pe_bltn (v := .ty "int") (u := .type "int") (by rfl) T.b_int (by decide +kernel) rfl) pa_nil))) (pe_one (pe_not (pe_callB (KX.callIsi (K := K)) (by rfl) T.b_isinstance (by decide +kernel) (pa_cons (pv 0) (pa_cons (pe_bltn (v := .ty "bool") (u := .type "bool") (by rfl) T.b_bool (by decide +kernel) rfl) pa_nil)))))))), ?_⟩
      tm_at "s"
      refine s_isiT (.x (.base (.bl b))) (b := true) (kit_ty (by decide +kernel)) ?_
      tm_at "s"
      refine s_isiT (.x (.base (.bl b))) (b := true) (kit_ty (by decide +kernel)) ?_
      tm_at "s"
      exact k
    · refine ⟨_, (pss_one (ps_ret (pe_and (pe_callB (KX.callIsi (K := K)) (by rfl) T.b_isinstance (by decide +kernel) (pa_cons (pv 0) (pa_cons (pe_bltn (v := .ty "int") (u := .type "int") (by rfl) T.b_int (by decide +kernel) rfl) pa_nil))) (pe_one (pe_not (pe_callB (KX.callIsi (K := K)) (by rfl) T.b_isinstance (by decide +kernel) (pa_cons (pv 0) (pa_cons (pe_bltn (v := .ty "bool") (u := .type "bool") (by rfl) T.b_bool (by decide +kernel) rfl) pa_nil)))))))), ?_⟩
      tm_at "s"
      refine s_isiT h1 h2 ?_
      tm_at "s"
      exact k
theorem ok_is_within {f : Addr} {fd : FuncData} (F : Fun K "is_within" "is_within" s_is_within f fd) (T : Txt K mg C CB CC CM CL CT CN CW) (c_is_integer : FnO P w K mg base CX0 1 "is_integer" ["value"] (spIsI2 K)) : FnOk P w K mg base CX0 2 f fd ["value", "least", "most"] (spWithin2 K) := by
  refine funO F sc_is_within (fun vs H Q E h => ?_) (fun cd A fr s H vs Q E hr h => ?_)
  · obtain ⟨x, a, b, rfl, _⟩ := h; rfl
  · obtain ⟨x, a, b, rfl, hc⟩ := h
    refine ⟨_, (pss_one (ps_ret (pe_and (pe_o c_is_integer hr pass0 (pa_cons (pv 0) pa_nil)) (pe_one (pe_chain op_le op_le (pv 1) (pv 0) (pv 2)))))), ?_⟩
    tm_at "s"
    rcases hc with ⟨i, rfl, h1, h2, k⟩ | ⟨ni | ⟨i, rfl, hn⟩, k⟩
    · refine ⟨_, rfl, .inl ⟨i, rfl, ?_⟩⟩
      tm_at "s"
      refine iteD (fun _ => ?_) (fun z => absurd h1 z)
      tm_at "s"
      rw [decide_eq_true h2]
      exact k
    · refine ⟨_, rfl, .inr ⟨ni, ?_⟩⟩
      tm_at "s"
      exact k
    · refine ⟨_, rfl, .inl ⟨i, rfl, ?_⟩⟩
      tm_at "s"
      refine iteD (fun z => ?_) (fun z => ?_)
      · tm_at "s"
        rw [decide_eq_false (fun y => hn ⟨z, y⟩)]
        exact k
      · tm_at "s"
        exact k
theorem ok_is_size {f : Addr} {fd : FuncData} (F : Fun K "is_size" "is_size" s_is_size f fd) (T : Txt K mg C CB CC CM CL CT CN CW) (c_is_within : FnO P w K mg base CX0 2 "is_within" ["value", "least", "most"] (spWithin2 K)) : FnOk P w K mg base CX0 3 f fd ["value"] (spSize2 K) := by
  refine funO F sc_is_size (fun vs H Q E h => ?_) (fun cd A fr s H vs Q E hr h => ?_)
  · obtain ⟨x, rfl, _⟩ := h; rfl
  · obtain ⟨x, rfl, hc⟩ := h
    refine ⟨_, (pss_one (ps_ret (pe_o c_is_within hr pass0 (pa_cons (pv 0) (pa_cons pe_int (pa_cons (C8.pe_gc (by rfl) T.g_MOST_SIZE) pa_nil)))))), ?_⟩
    tm_at "s"
    exact ⟨x, 1, 10 ^ 30, rfl, hc⟩
theorem ok_need_size {f : Addr} {fd : FuncData} (F : Fun K "need_size" "need_size" s_need_size f fd) (T : Txt K mg C CB CC CM CL CT CN CW) (c_is_size : FnO P w K mg base CX0 3 "is_size" ["value"] (spSize2 K)) (e_BadSize : Er1 P w K mg base "BadSize" CB "value") : FnOk P w K mg base (L2.CX P w) 4 f fd ["value"] (spNeedSize K CB) := by
  refine funO F sc_need_size (fun vs H Q E h => ?_) (fun cd A fr s H vs Q E hr h => ?_)
  · obtain ⟨x, rfl, _⟩ := h; rfl
  · obtain ⟨x, rfl, hc⟩ := h
    refine ⟨_, (pss_one (ps_if (pt_not (pt_val (pe_o c_is_size hr pass0 (pa_cons (pv 0) pa_nil)))) (pss_one (ps_raise1 e_BadSize hr rfl (takes_of rfl rfl rfl rfl) (pa_cons (pv 0) pa_nil))) pss_nil)), ?_⟩
    tm_at "s"
    rcases hc with ⟨i, rfl, hi, k⟩ | ⟨ho, rz⟩
    · refine ⟨_, rfl, .inl ⟨i, rfl, hi.1, hi.2, ?_⟩⟩
      tm_at "s"
      exact k
    · refine ⟨_, rfl, .inr ⟨ho, ?_⟩⟩
      tm_at "s"
      exact s_rz rz
theorem ok_need_few {f : Addr} {fd : FuncData} (F : Fun K "need_few" "need_few" s_need_few f fd) (T : Txt K mg C CB CC CM CL CT CN CW) (e_TooMany : Er2 P w K mg base "TooMany" CM "what" "most") : FnOk P w K mg base (L2.CX P w) 3 f fd ["many"] (spNeedFew CM) := by
  refine funO F sc_need_few (fun vs H Q E h => ?_) (fun cd A fr s H vs Q E hr h => ?_)
  · obtain ⟨x, rfl, _⟩ := h; rfl
  · obtain ⟨n, rfl, hc⟩ := h
    refine ⟨_, (pss_one (ps_if (pt_cmpR op_gt (pv 0) (C8.pe_gc (by rfl) T.g_MOST_CHUNKS) (nomark _)) (pss_one (ps_raise2 e_TooMany hr rfl (takes_of rfl rfl rfl rfl) (pa_cons pe_str (pa_cons (C8.pe_gc (by rfl) T.g_MOST_CHUNKS) pa_nil)))) pss_nil)), ?_⟩
    tm_at "s"
    rcases hc with ⟨hn, k⟩ | ⟨hn, rz⟩
    · refine iteD (fun z => absurd z (by omega)) (fun _ => ?_)
      tm_at "s"
      exact k
    · refine iteD (fun _ => ?_) (fun z => absurd hn (by omega))
      tm_at "s"
      exact s_rz2 rz
theorem ok_ends_of {f : Addr} {fd : FuncData} (F : Fun K "ends_of" "ends_of" s_ends_of f fd) (T : Txt K mg C CB CC CM CL CT CN CW) : FnOk P w K mg base CX0 1 f fd ["sizes"] spEnds := by
  refine funO F sc_ends_of (fun vs H Q E h => ?_) (fun cd A fr s H vs Q E hr h => ?_)
  · obtain ⟨t, ns, rfl, _⟩ := h; rfl
  · obtain ⟨t, ns, rfl, ht, hz, k⟩ := h
    refine ⟨_, (pss_cons (ps_set (i := 1) sc_ends_of.nd rfl (Or.inl rfl) (pe_lst pa_nil))
      (pss_cons (ps_set (i := 2) sc_ends_of.nd rfl (Or.inl rfl) pe_int)
      (pss_cons (ps_for (passes_of rfl) rfl (pi_tup (pv 0)) (pg_name (i := 3) sc_ends_of.nd rfl (Or.inl rfl)) (pss_cons (ps_set (i := 2) sc_ends_of.nd rfl (Or.inl rfl) (pe_op opAdd (pv 2) (pv 3)))
      (pss_one (ps_expr (pe_bm PySem.F.plainAttrs_list PySem.F.slot_list_append PySem.F.type_list_append mt_append (pv 1) (pa_cons (pv 2) pa_nil))))))
      (pss_one (ps_ret (pe_callTy call_tuple_of (by rfl) T.b_tuple (by decide +kernel) (pa_cons (pv 1) pa_nil))))))), ?_⟩
    tm_at "s"
    refine s_new (Nat.le_of_lt (small1000 (by simp))) fun l H1 hl e1 h1 => ?_
    try dsimp only
    tm_at "s"
    have htl : t ≠ l := ne_of_none ht hl
    refine s_fT (xs := ns.map V.int) (e1 _ _ ht) (fun i σ H' => ∃ v, σ = [some (.ref t), some (.ref l), some (.int (ns.take i).sum), v] ∧ H' l = some (.lst ((endsOf (ns.take i)).map V.int)) ∧ ∀ b o, b ≠ l → H1 b = some o → H' b = some o) ⟨_, rfl, h1, fun _ _ _ h => h⟩ (fun i σ H' ⟨_, _, _, k2⟩ => k2 _ _ htl (e1 _ _ ht)) ?_ ?_
    · rintro i x _ H' hx ⟨v, rfl, h2, k2⟩
      obtain ⟨n, hn, rfl⟩ := get_int hx
      refine s_gNm ?_
      try dsimp only
      tm_at "s"
      refine s_tyL h2 ?_
      tm_at "s"
      have hi : i < ns.length := (List.getElem?_eq_some_iff.mp hn).1
      refine s_app h2 (Nat.lt_of_le_of_lt (by rw [List.length_map, endsOf_len, List.length_take]; omega) (sz100k hz)) ?_
      have es : (ns.take (i + 1)).sum = (ns.take i).sum + n := by rw [take_snoc hn, List.sum_append, List.sum_cons, List.sum_nil, Int.add_zero]
      refine ⟨_, by rw [es]; rfl, ?_, fun c o hc h => by rw [upd_ne hc]; exact k2 c o hc h⟩
      rw [upd_same, take_snoc hn, endsOf_snoc, List.map_append]; rfl
    · rintro _ H' ⟨v, rfl, h2, k2⟩
      rw [List.length_map, List.take_length] at h2
      try dsimp only
      tm_at "s"
      have e3 : Ex H H' := fun c o hc => k2 c o (ne_of_none hc hl) (e1 _ _ hc)
      exact ⟨l, _, rfl, .inl ⟨.inl (.inl h2), fun q hq => k q _ (e3.free hq) (e3.trans (ex_new hq)) upd_same⟩⟩
theorem ok_Chunks {f : Addr} {fd : FuncData} (F : Fun K "__init__" "Chunks.__init__" s_Chunks___init__ f fd) (T : Txt K mg C CB CC CM CL CT CN CW) (c_need_size : FnO P w K mg base (L2.CX P w) 4 "need_size" ["value"] (spNeedSize K CB)) (c_need_few : FnO P w K mg base (L2.CX P w) 3 "need_few" ["many"] (spNeedFew CM)) (c_ends_of : FnO P w K mg base CX0 1 "ends_of" ["sizes"] spEnds) :
    FnR P w K mg base (L2.CX P w) 5 f (spCk K C CB CM) := by
  refine funStar F sc_Chunks___init__ (fun _ _ _ _ _ _ _ => rfl) (fun _ _ _ _ _ _ _ _ _ => rfl) (fun cd A fr s H vs Q E hr h => ?_)
  obtain ⟨p, dx, t, xs, rfl, hp, htp, ht, hz, hc⟩ := h
  obtain ⟨ns, rest, rfl, hsz, hr'⟩ : ∃ (ns : List Int) (rest : List V), xs = ns.map V.int ++ rest ∧ (∀ n ∈ ns, siz n) ∧ ((rest = [] ∧ ((ns.length ≤ 5000 ∧ (∀ H', (∀ c o, c ≠ p → H c = some o → H' c = some o) → Ck C H' p ns → Q .non H')) ∨ (5000 < ns.length ∧ Rz2 CM "what" "most" (.str "chunks") (.int 5000) H E))) ∨ ∃ z r, rest = z :: r ∧ OutS K H z 1 (10 ^ 30) ∧ Rz CB "value" z H E) := by
    rcases hc with ⟨ns, rfl, h1, h2⟩ | ⟨ns, z, r, rfl, h1, h2, h3⟩
    · exact ⟨ns, [], by rw [List.append_nil], h1, .inl ⟨rfl, h2⟩⟩
    · exact ⟨ns, z :: r, rfl, h1, .inr ⟨z, r, rfl, h2, h3⟩⟩
  refine ⟨_, (pss_cons (ps_for (passes_of rfl) rfl (pi_tup (pv 1)) (pg_name (i := 2) sc_Chunks___init__.nd rfl (Or.inl rfl)) (pss_one (ps_expr (pe_o c_need_size hr (passT (takes_of rfl rfl rfl rfl) (fun _ _ _ _ h => h)) (pa_cons (pv 2) pa_nil)))))
      (pss_cons (ps_expr (pe_o c_need_few hr (passT (takes_of rfl rfl rfl rfl) (fun _ _ _ _ h => h)) (pa_cons (pe_callB (KX.callLen (K := K)) (by rfl) T.b_len (by decide +kernel) (pa_cons (pv 1) pa_nil)) pa_nil)))
      (pss_cons (ps_fld (pv 0) (pv 1) rfl)
      (pss_cons (ps_fld (pv 0) (pe_o c_ends_of hr pass0 (pa_cons (pv 1) pa_nil)) rfl)
      (pss_cons (ps_fld (pv 0) (pe_ifExp (pt_cmpR op_gt (pe_callB (KX.callLen (K := K)) (by rfl) T.b_len (by decide +kernel) (pa_cons (pv 1) pa_nil)) pe_int (nomark _)) (pe_ix (KX.ixU (K := K)) (KX.fld (K := K) rfl (pv 0) rfl) (pe_un un_neg pe_int) (fun _ _ => rfl)) pe_int) rfl)
      (pss_one (ps_fld (pv 0) (pe_callTy call_tuple_of (by rfl) T.b_tuple (by decide +kernel) (pa_cons (pe_lc (own := [("size", 2), ("end", 3)]) (g := gTup K 2 (gCons (gName 2) (gCons (gName 3) gNil))) (tt := tYes) (by rfl) sc_Chunks___init__.nd (RZ.pi_zipA (by rfl) T.b_zip (pa_cons (KX.fld (K := K) rfl (pv 0) rfl) (pa_cons (KX.fld (K := K) rfl (pv 0) rfl) pa_nil))) (blkOk_by (own := [("size", 2), ("end", 3)]) (N := names_Chunks___init__) (sc := defScope s_Chunks___init__) (by decide +kernel)) (fun _ _ _ _ _ => pg_tup rfl (pgs_cons (pg_name (i := 2) sc_Chunks___init__.nd rfl (Or.inl rfl)) (pgs_cons (pg_name (i := 3) sc_Chunks___init__.nd rfl (Or.inl rfl)) pgs_nil))) (fun _ _ _ _ _ => pts_nil) (fun _ _ _ _ _ => (pe_op opAdd (pe_op op_sub (KX.fld (K := K) rfl (pv 0) rfl) (pv 3)) (pv 2)))) pa_nil)) rfl))))))), ?_⟩
  tm_at "s"
  refine s_fT ht (fun i σ H' => H' = H ∧ i ≤ ns.length ∧ ∃ v v', σ = [some (.ref p), some (.ref t), v, v']) ⟨rfl, Nat.zero_le _, _, _, rfl⟩ (fun i σ H' ⟨h, _⟩ => by rw [h]; exact ht) ?_ ?_
  · rintro i x _ H' hx ⟨rfl, hi, v, v', rfl⟩
    refine s_gNm ?_
    try dsimp only
    tm_at "s"
    rcases Nat.lt_or_ge i ns.length with hl | hl
    · rw [List.getElem?_append_left (by rw [List.length_map]; exact hl)] at hx
      obtain ⟨n, hn, rfl⟩ := get_int hx
      exact ⟨_, rfl, .inl ⟨n, rfl, hsz n (List.mem_of_getElem? hn), rfl, hl, _, _, rfl⟩⟩
    · have e : i = ns.length := by omega
      subst e
      rw [List.getElem?_append_right (by rw [List.length_map]; exact Nat.le_refl _), List.length_map, Nat.sub_self] at hx
      rcases hr' with ⟨rfl, _⟩ | ⟨z, r, rfl, h2, h3⟩
      · cases hx
      · cases hx
        exact ⟨_, rfl, .inr ⟨h2, h3⟩⟩
  · rintro _ H' ⟨rfl, hi, v, v', rfl⟩
    rcases hr' with ⟨rfl, hfew⟩ | ⟨z, r, rfl, h2, h3⟩
    · rw [List.append_nil] at ht hz
      try dsimp only
      tm_at "s"
      refine s_lenT ht ?_
      tm_at "s"
      rw [List.length_map] at hz ⊢
      rcases hfew with ⟨hle, kq⟩ | ⟨hgt, rz⟩
      · refine ⟨_, rfl, .inl ⟨by omega, ?_⟩⟩
        tm_at "s"
        refine ⟨p, C, dx, [], rfl, hp, T.c.cl, T.nS, by decide, ?_⟩
        tm_at "s"
        refine ⟨t, ns, rfl, by rw [upd_ne htp]; exact ht, hz, fun q H2 nq e2 h2 => ?_⟩
        have hp2 := e2 _ _ (show (upd H' p _) p = some _ from upd_same)
        have hqp : q ≠ p := fun z => by rw [z, upd_same] at nq; cases nq
        have ht2 := e2 t _ (show (upd H' p _) t = some _ by rw [upd_ne htp]; exact ht)
        tm_at "s"
        refine ⟨p, C, dx, _, rfl, hp2, T.c.cl, T.nE, (by show 1 < 1000; decide), ?_⟩
        tm_at "s"
        refine s_lenT (show (upd H2 p _) t = some _ by rw [upd_ne htp]; exact ht2) ?_
        rw [List.length_map]
        tm_at "s"
        generalize hI2 : upd H2 p (HO.ins C dx _) = I2
        have pI2 : I2 p = some (.ins C dx (putF "ends" (.ref q) (putF "sizes" (.ref t) []))) := by rw [← hI2, upd_same]
        have kI2 : ∀ c o, c ≠ p → H' c = some o → I2 c = some o := fun c o hc h => by rw [← hI2, upd_ne hc]; exact e2 c o (by rw [upd_ne hc]; exact h)
        have qI2 : I2 q = some (.tup ((endsOf ns).map V.int)) := by rw [← hI2, upd_ne hqp]; exact h2
        have key : ∀ R : VK, R (.int ns.sum) I2 → if decide ((0 : Int) < (ns.length : Int)) = true then tOp (rIxU K) (tFld K (tVar 0) "ends") (tUn (rU fun i => V.int (-i)) (tC (V.int 1))) [some (V.ref p), some (V.ref t), v, v'] I2 R else tC (.int 0) [some (V.ref p), some (V.ref t), v, v'] I2 R := by
          intro R hR
          refine iteD (fun z => ?_) (fun z => ?_)
          · have hne : ns ≠ [] := fun e => by rw [e] at z; exact absurd z (by decide)
            tm_at "s"
            refine ⟨p, C, dx, _, _, rfl, pI2, T.c.cl, T.nE, rfl, ?_⟩
            tm_at "s"
            exact s_iT qI2 (endsOf_last hne) hR
          · have he : ns = [] := by cases ns with | nil => rfl | cons _ _ => exact absurd (show (0 : Int) < ((_ :: _ : List Int).length : Int) by rw [List.length_cons]; omega) z
            subst he
            exact hR
        refine key _ ?_
        tm_at "s"
        refine ⟨p, C, dx, _, rfl, pI2, T.c.cl, T.nT, (by show 2 < 1000; decide), ?_⟩
        generalize hI3 : upd I2 p (HO.ins C dx _) = I3
        have pI3 : I3 p = some (.ins C dx (putF "total" (.int ns.sum) (putF "ends" (.ref q) (putF "sizes" (.ref t) [])))) := by rw [← hI3, upd_same]
        have kI3 : ∀ c o, c ≠ p → I2 c = some o → I3 c = some o := fun c o hc h => by rw [← hI3, upd_ne hc]; exact h
        have qI3 := kI3 _ _ hqp qI2
        have tI3 := kI3 _ _ htp (kI2 _ _ htp ht)
        try dsimp only
        tm_at "s"
        refine ⟨p, C, dx, _, _, rfl, pI3, T.c.cl, T.nS, rfl, ?_⟩
        tm_at "s"
        refine ⟨p, C, dx, _, _, rfl, pI3, T.c.cl, T.nE, rfl, ?_⟩
        tm_at "s"
        refine ⟨t, q, _, _, rfl, .inr ⟨.inl (.inl tI3), .inl (.inl qI3), lcZT (fun i => .int (ns.sum - (endsOf ns).getD i 0 + ns.getD i 0)) (by rw [List.length_map, List.length_map, endsOf_len]) tI3 qI3 (by rw [List.length_map]; exact sz100k hz) (fun _ _ => rfl) (fun i x y H4 R hx hy e4 r => ?_) fun D H4 nD e4 h4 => ?_⟩⟩
        · obtain ⟨n, hn, rfl⟩ := get_int hx
          obtain ⟨m, hm, rfl⟩ := get_int hy
          tm_at "s"
          refine ⟨p, C, dx, _, _, rfl, e4 _ _ pI3, T.c.cl, T.nT, rfl, ?_⟩
          tm_at "s"
          have e1 : ns.getD i 0 = n := by rw [List.getD_eq_getElem?_getD, hn]; rfl
          have e2 : (endsOf ns).getD i 0 = m := by rw [List.getD_eq_getElem?_getD, hm]; rfl
          rw [e1, e2] at r
          exact r
        · tm_at "s"
          rw [List.length_map] at h4
          refine ⟨D, _, rfl, .inl ⟨.inl (.inl h4), fun u hu => ?_⟩⟩
          tm_at "s"
          have pI4 := e4 _ _ pI3
          have hup : u ≠ p := fun z => by rw [z, pI4] at hu; cases hu
          refine ⟨p, C, dx, _, rfl, by rw [upd_ne hup.symm]; exact pI4, T.c.cl, T.nR, (by show 3 < 1000; decide), ?_⟩
          have ku : ∀ c o, c ≠ p → I3 c = some o → (upd (upd H4 u (HO.tup ((List.range ns.length).map fun i => V.int (ns.sum - (endsOf ns).getD i 0 + ns.getD i 0)))) p (HO.ins C dx (ckF t q u ns.sum))) c = some o := fun c o hc h => by
            rw [upd_ne hc, upd_ne (ne_of_none (e4 _ _ h) hu)]; exact e4 _ _ h
          refine kq _ (fun c o hc h => ku c o hc (kI3 _ _ hc (kI2 _ _ hc h))) ⟨dx, t, q, u, upd_same, ku _ _ htp tI3, ku _ _ hqp qI3, ?_⟩
          rw [upd_ne hup, upd_same]
          unfold restsOf
          rw [List.map_map]; rfl
      · exact ⟨_, rfl, .inr ⟨by omega, rz⟩⟩
    · rw [List.length_append, List.length_map, List.length_cons] at hi
      omega
end
end K13
end
section
namespace L3
open PySem PySem.Spec PyProof.Rows L2 NumText
def Pg (n : Nat) (z : Str) : Prop := z.length ≤ n ∧ ∀ c ∈ z.cps.toList, c < 1114112
theorem Pg.mono {n m : Nat} {z : Str} (h : Pg n z) (hm : n ≤ m) : Pg m z := ⟨Nat.le_trans h.1 hm, h.2⟩
theorem Pg.app {n m : Nat} {a b : Str} (h1 : Pg n a) (h2 : Pg m b) : Pg (n + m) (a ++ b) := by
  refine ⟨by rw [len_app]; have := h1.1; have := h2.1; omega, fun c hc => ?_⟩
  have e : (a ++ b).cps.toList = a.cps.toList ++ b.cps.toList := TL.tl_append a b
  rw [e] at hc
  rcases List.mem_append.mp hc with hc | hc
  · exact h1.2 c hc
  · exact h2.2 c hc
end L3
end
section
namespace L3
open PySem PySem.Spec PyProof.Rows L2 LamX ClX
/-- no text: another value, or a fraction -/
inductive NoS (C : Addr) (H : Hp) : V → Prop
  | non : NoS C H .non
  | bl (b : Bool) : NoS C H (.bl b)
  | int (i : Int) : NoS C H (.int i)
  | tup {p : Addr} {xs : List V} : H p = some (.tup xs) → NoS C H (.ref p)
  | lst {p : Addr} {xs : List V} : H p = some (.lst xs) → NoS C H (.ref p)
  | dic {p : Addr} {kvs : List (Key × V)} : H p = some (.dK kvs) → NoS C H (.ref p)
  | rt {p : Addr} {o u : Int} : Rt C H p o u → NoS C H (.ref p)
theorem NoS.exN {C : Addr} {H H' : Hp} {v : V} (h : NoS C H v) (e : ExtN H H') : NoS C H' v := by
  cases h with
  | non => exact .non
  | bl b => exact .bl b
  | int b => exact .int b
  | tup h => exact .tup (e _ _ h fun _ z => nomatch z)
  | lst h => exact .lst (e _ _ h fun _ z => nomatch z)
  | dic h => exact .dic (e _ _ h fun _ z => nomatch z)
  | rt h => exact .rt (h.exN e)
end L3
namespace L3
open PySem PySem.Spec PyProof.Rows L2 LamX ClX
def bas : Int := (10 : Int) ^ (Int.toNat 30) - 1
def far (i : Nat) : Int := bas ^ (i + 1)
end L3
end
section
namespace L3
open PySem PySem.NumText PySem.Spec PyProof.Rows L2
end L3
end
section
namespace L3
open PySem PySem.NumText PySem.Spec PyProof.Rows L2 LamX RZ
section
variable {K : PySem.W.Frag} {σ : L2.St} {H : Hp} {Q : VK} {g : TG} {tb : TS} {D : Ends} {ta to te : TE} {t : TA}
/-- a walk over anything -/
def ForJ (J : It) (g : TG) (tb : TS) (D : Ends) (σ : L2.St) (H : Hp) : Prop := ∃ W : Nat → Nat → L2.St → Hp → Prop, (∃ m, W 0 m σ H) ∧ ∀ (i m : Nat) (σ : L2.St) (H : Hp), W i m σ H → J.stop i H ∧ D.nx σ H ∨ J.go i H ∧
  ∃ N, (∀ (σ' : L2.St) (H' : Hp), N σ' H' → ∃ m', m' < m ∧ W (i + 1) m' σ' H') ∧ ∀ (x : V) (H' : Hp), J.yld i H x H' → g x σ H' fun σ2 H2 => tb { nx := N, rt := D.rt, bk := D.nx, ct := N } σ2 H2
theorem s_forE (h : t σ H fun ws H1 => ∃ a xs, ws = [.ref a] ∧ SqL K H1 a xs ∧ ForJ (Ite K a) g tb D σ H1) : tFor (iEnum K t) g tb D σ H := h
theorem s_forZ (h : t σ H fun ws H1 => ∃ a b xs ys, ws = [.ref a, .ref b] ∧ ((SqL K H1 a xs ∧ SqL K H1 b ys ∧ ForJ (Itz K a b) g tb D σ H1) ∨ (SqT K H1 a xs ∧ SqT K H1 b ys ∧ ForJ (ItzT K a b) g tb D σ H1))) : tFor (iZipA K t) g tb D σ H := h
theorem s_orT (h : ta σ H fun x H1 => ∃ k, TruV K x H1 k ∧ if k = true then Q x H1 else te σ H1 Q) : tOrT K ta te σ H Q := h
end
section
variable {K : PySem.W.Frag} {σ : L2.St} {H : Hp} {Q : VK}
theorem s_lcTp {te ta : TE} {g : TG} {tt : TT} {vs : List Nat} (h : ta σ H fun x H1 => ∃ a, x = .ref a ∧ (∃ xs, SqT K H1 a xs) ∧ LC (Itt K a) g tt te vs σ H1 Q) : tLc (iTup K ta) g tt te vs σ H Q := h
/-- [f(x) for x in t if p(x)], t a tuple, by the places -/
theorem lcTI {te : TE} {a : Addr} {xs : List V} {j : Nat} {tt : TT} {vs : List Nat} (b : Nat → Bool) (f : Nat → V) (ha : H a = some (.tup xs)) (hz : xs.length < sizeLine) (hw : ∀ x, wipe ((wipe σ vs).set j (some x)) vs = wipe σ vs)
    (ht : ∀ (i : Nat) (x : V) (H1 : Hp) (R : Bool → Hp → Prop), xs[i]? = some x → Ex H H1 → R (b i) H1 → tt ((wipe σ vs).set j (some x)) H1 R) (he : ∀ (i : Nat) (x : V) (H1 : Hp) (R : VK), xs[i]? = some x → b i = true → Ex H H1 → (∀ H2, Ex H1 H2 → R (f i) H2) → te ((wipe σ vs).set j (some x)) H1 R)
    (k : ∀ D H2, H D = none → Ex H H2 → H2 D = some (.lst (((List.range xs.length).filter b).map f)) → Q (.ref D) H2) : LC (Itt K a) (gName j) tt te vs σ H Q := by
  intro D hD
  refine lc_tup (K := K) (a := a) (xs := xs) (fun n H1 => Ex H H1 ∧ H1 D = some (.lst (((List.range n).filter b).map f))) ⟨ex_new hD, upd_same⟩ (fun n H1 _ ⟨e, _⟩ => .inl (.inl (e _ _ ha))) (fun n x H1 hx ⟨e, h1⟩ => ?_) (fun H1 ⟨e, h1⟩ => k D H1 hD e h1)
  have hn : n < xs.length := (List.getElem?_eq_some_iff.mp hx).1
  have er : List.range (n + 1) = List.range n ++ [n] := List.range_succ
  refine ⟨hw _, ht n x H1 _ hx e ?_⟩
  cases hb : b n with
  | true =>
    refine iteT (he n x H1 _ hx hb e fun H2 e2 => ⟨_, e2 _ _ h1, ?_, fun c o hc => ?_, ?_⟩)
    · rw [List.length_map]
      exact Nat.lt_of_le_of_lt (Nat.le_trans (List.length_filter_le _ _) (by rw [List.length_range]; omega)) hz
    · rw [upd_ne (ne_of_none hc hD)]; exact e2 _ _ (e _ _ hc)
    · rw [upd_same, er, List.filter_append, List.map_append]
      simp [hb]
  | false =>
    refine iteF ⟨e, ?_⟩
    rw [er, List.filter_append]
    simpa [hb] using h1
theorem range_true (n : Nat) : (List.range n).filter (fun _ => true) = List.range n := List.filter_eq_self.mpr fun _ _ => rfl
theorem range_map {α : Type} (xs : List α) (d : α) {β : Type} (f : α → β) : (List.range xs.length).map (fun i => f (xs.getD i d)) = xs.map f := by
  refine List.ext_getElem (by simp) fun i h1 h2 => ?_
  simp only [List.getElem_map, List.getElem_range]
  rw [List.getD_eq_getElem?_getD, List.getElem?_eq_getElem (by simpa using h2)]; rfl
end
theorem lt8000 {x : Int} (h0 : 0 ≤ x) (h1 : x ≤ 10 ^ 40) : x.natAbs < 2 ^ 8000 := by
  obtain ⟨m, rfl⟩ : ∃ m : Nat, x = (m : Int) := ⟨x.toNat, by omega⟩
  rw [Int.natAbs_natCast]
  have e : ((10 ^ 40 : Nat) : Int) = 10 ^ 40 := by decide +kernel
  rw [← e] at h1
  exact Nat.lt_of_le_of_lt (Int.ofNat_le.mp h1) (Nat.lt_of_lt_of_le (by decide +kernel : 10 ^ 40 < 2 ^ 200) (Nat.pow_le_pow_right (by decide) (by decide)))
theorem lt8000s {x : Int} (h0 : 0 ≤ x) (h1 : x ≤ 1000000) : x.natAbs < 2 ^ 8000 := lt8000 h0 (Int.le_trans h1 (by decide +kernel))
theorem eqv_ints : ∀ ns ms : List Int, PyData.eqvAll (ns.map PyData.int) (ms.map PyData.int) = decide (ns = ms)
  | [], [] => rfl
  | [], _ :: _ => rfl
  | _ :: _, [] => rfl
  | n :: r, m :: s => by
    have ih := eqv_ints r s
    simp only [List.map_cons]
    first
      | (unfold PyData.eqvAll; rw [ih]; rw [show PyData.eqv (.int n) (.int m) = decide (n = m) by first | rfl | (simp [PyData.eqv])]; by_cases h1 : n = m <;> by_cases h2 : r = s <;> simp [h1, h2])
theorem eqv_tup (ns ms : List Int) : PyData.eqv (.tuple (ns.map PyData.int)) (.tuple (ms.map PyData.int)) = decide (ns = ms) := by
  unfold PyData.eqv
  exact eqv_ints ns ms
theorem shTup (ns : List Int) : SeqAt.shaped (.tuple (ns.map PyData.int)) = true := by
  have h := shInts ns
  unfold SeqAt.shaped PyData.canLay0 PyData.depth at h ⊢
  exact h
end L3
end
section
local macro_rules | `(tactic| tm_at "s1") => `(tactic| first
  | with_reducible first
    | refine L3.s_seq ?_ | refine L3.s_asg ?_ | refine L3.s_op ?_ | refine L3.s_c ?_ | refine L3.s_cb ?_ | refine L3.s_cons ?_ | refine L3.s_nil ?_ | refine L3.s_test ?_ | refine L3.s_bl ?_
    | refine L3.s_I0 ?_ | refine L3.s_and ?_ | refine L3.s_or ?_ | refine L3.s_not ?_ | refine L3.s_if ?_ | refine L3.s_next ?_ | refine L3.s_ret ?_ | refine L3.s_retN ?_ | refine L3.s_asgS ?_ | refine L3.s_drop ?_
    | refine L3.s_un ?_ | refine L3.s_U ?_ | refine L3.s_int ?_ | refine L3.s_intB ?_ | refine L3.s_abs ?_ | refine L3.s_andV ?_ | refine L3.s_orV ?_ | refine L3.s_notV ?_ | refine L3.s_ifE ?_ | refine L3.s_call ?_ | refine L3.s_lst ?_ | refine L3.s_tup ?_ | refine L3.s_tB ?_
    | refine L3.s_addI ?_ | refine L3.s_inS ?_ | refine L3.s_ninS ?_ | refine L3.s_slice ?_ | refine L3.s_part ?_ | refine L3.s_partI ?_ | refine L3.s_nopart ?_ | refine L3.s_cI ?_ | refine L3.s_cB ?_ | refine L3.s_chain ?_ | refine L3.s_bm ?_ | refine L3.s_lcS ?_ | refine L3.s_lcR ?_ | refine L3.s_strE ?_
    | refine L2.iteT ?_ | refine L2.iteF ?_ | refine L3.iteNF ?_ | refine L3.iteNT ?_
    | refine L3.s_eqI ?_ | refine L3.s_neI ?_ | refine L3.s_eqS ?_ | refine L3.s_neS ?_
    | refine L3.s_pair ?_ | refine L3.s_pair2 ?_ | refine L3.s_fld ?_ | refine L3.s_make ?_ | refine L3.s_m1 ?_ | refine L3.s_isstr ?_
    | refine L3.s_xfV ?_ | refine L3.s_lstN ?_ | refine L3.s_callF ?_ | refine L3.s_lcL ?_ | refine L3.s_par3 ?_ | refine L3.s_trip ?_ | refine L3.s_asgT' ?_ | refine L3.s_gC ?_ | refine L3.s_gN ?_ | refine L3.s_fldG ?_ | refine L3.s_raise1 ?_ | refine L3.s_raise2 ?_ | refine L3.s_star ?_ | refine L3.s_mkCR ?_ | refine L3.s_lcZ ?_ | refine L3.s_forL ?_ | refine L3.s_forT ?_ | refine L3.s_gNm ?_ | refine L3.s_forE ?_ | refine L3.s_stC ?_ | refine L3.s_cmC ?_ | refine L3.s_forR1 ?_ | refine L3.s_lcTp ?_ | refine L3.s_forZ ?_ | refine L3.s_orT ?_
    | refine L3.s_isN ?_ | refine L3.s_isB ?_ | refine L3.s_nisN ?_ | refine L3.s_nisB ?_
  | ((with_reducible refine' L3.s_var ?e ?_); (case e => rfl))
  | ((with_reducible refine' L3.s_aug ?e ?_); (case e => rfl))
  | ((with_reducible refine' L3.s_pow ?c ?_); (case c => exact ⟨by decide, by decide, by decide⟩)))
local macro_rules | `(tactic| tm_at "s") => `(tactic| repeat tm_at "s1")
namespace K13
open PySem PySem.Spec PyProof.Rows L2 L3 LamX
abbrev s__law_pen : Stmt := topS 31
theorem sc__law_pen : FnScope ["_law_script"] ["_law_script"] (defScope s__law_pen) := ⟨rfl, rfl, rfl, by decide +kernel, rfl, by decide +kernel, by decide +kernel⟩
abbrev s__law_draw : Stmt := topS 32
theorem sc__law_draw : FnScope ["_law_pen_here", "_law_many", "_law_digit", "_law_spot", "_law_cell", "_law_great", "_law_mixed"] ["_law_pen_here", "_law_many"] (defScope s__law_draw) := ⟨rfl, rfl, rfl, by decide +kernel, rfl, by decide +kernel, by decide +kernel⟩
abbrev s__law_pick : Stmt := topS 33
theorem sc__law_pick : FnScope ["_law_pen_here", "_law_some"] ["_law_pen_here", "_law_some"] (defScope s__law_pick) := ⟨rfl, rfl, rfl, by decide +kernel, rfl, by decide +kernel, by decide +kernel⟩
section
variable {P : Program} {w : World} {K : PySem.W.Frag} {mg : Str → Option Value} {base : Heap} {C CB CC CM CL CT CN CW : Addr}
theorem ok_pen {f : Addr} {fd : FuncData} (F : Fun K "_law_pen" "_law_pen" s__law_pen f fd) (T : Txt K mg C CB CC CM CL CT CN CW) : FnG P w K mg base CX0 1 f fd ["_law_script"] (spPen K) := by
  refine funG F sc__law_pen (fun vs H Q E h => ?_) (fun cd A fr s H vs Q E hr hg h => ?_)
  · obtain ⟨a, ns, rfl, _⟩ := h; rfl
  · obtain ⟨a, ns, rfl, hs, hl, k⟩ := h
    refine ⟨_, pss_penNew ((pss_one (ps_ret (pe_lst (pa_cons (pe_callTy (KX.callList (K := K) rfl rfl) (by rfl) T.b_list (by decide +kernel) (pa_cons (pe_slice (KX.slU (K := K)) (pv 0) po_none (po_some pe_int)) pa_nil)) (pa_cons pe_int (pa_cons pe_int pa_nil))))))), ?_⟩
    show (tRet _ : TS) _ _ _
    tm_at "s"
    refine s_slL hs fun q H1 hq e1 h1 => ?_
    tm_at "s"
    refine s_listL (.inl (.inl h1)) fun l H2 hl2 e2 h2 => ?_
    tm_at "s"
    refine s_new (Nat.le_of_lt (small1000 (by simp))) fun p H3 hp e3 h3 => ?_
    have hH : H p = none := e1.free (e2.free hp)
    have nlp : l ≠ p := ne_of_none h2 hp
    have hHl : H l = none := e1.free hl2
    refine ⟨p, l, 0, ns.take 63, rfl, h3, ?_, nlp, k p _ hH (fun b o hb => ?_) ⟨l, ns.take 63, ?_, upd_same, ?_, nlp⟩⟩
    · rw [e3 _ _ h2]
      have : cutV (ns.map V.int) none (some 63) = (ns.take 63).map V.int := by
        unfold cutV
        show ((ns.map V.int).drop 0).take (HT.sIx (ns.map V.int).length (ns.map V.int).length (some (63 : Nat)) - 0) = _
        rw [HT.sIx_nat, List.drop_zero, List.length_map, Nat.sub_zero, List.map_take]
        rw [List.take_eq_take_iff]
        simp
      rw [this]
    · rw [upd_ne (ne_of_none hb hHl), upd_ne (ne_of_none hb hH)]
      exact e3 _ _ (e2 _ _ (e1 _ _ hb))
    · rw [upd_ne (Ne.symm nlp)]; exact upd_same
    · rw [List.length_take]; omega
theorem drawC : DrawC 81715 658 2147483029 41890 173 2147482951 283 4112 357 2147482949 := ⟨by decide, by decide, by decide, by decide, by decide, by decide, by decide, by decide, by decide⟩
theorem ok_draw {f : Addr} {fd : FuncData} (F : Fun K "_law_draw" "_law_draw" s__law_draw f fd) (T : Txt K mg C CB CC CM CL CT CN CW) : FnG P w K mg base CX0 1 f fd ["_law_pen_here", "_law_many"] spDraw := by
  refine funG F sc__law_draw (fun vs H Q E h => ?_) (fun cd A fr s H vs Q E hr hg h => ?_)
  · obtain ⟨a, n, many, rfl, _⟩ := h; rfl
  · obtain ⟨a, n, many, rfl, hm, hm2, ⟨c, ns, ha, hc, hl⟩, hn, k⟩ := h
    refine ⟨_, pss_sc c ns (pss_pen a c n (n + 1) ((pss_cons (ps_if (pt_cmpR op_gt (pe_ix (KX.ixU (K := K)) (pv 0) pe_int (fun _ _ => rfl)) pe_int (nomark _)) (pss_cons (ps_set (i := 2) sc__law_draw.nd rfl (Or.inl rfl) (pe_op op_mod (pe_callTy (KX.callInt (K := K)) (by rfl) T.b_int (by decide +kernel) (pa_cons (pe_ix (KX.ixU (K := K)) (pv 0) pe_int (fun _ _ => rfl)) pa_nil)) (pv 1)))
      (pss_cons (ps_asg (pe_op op_fdivW (pe_callTy (KX.callInt (K := K)) (by rfl) T.b_int (by decide +kernel) (pa_cons (pe_ix (KX.ixU (K := K)) (pv 0) pe_int (fun _ _ => rfl)) pa_nil)) (pv 1)) (pg_sub (pv 0) pe_int set_list))
      (pss_one (ps_ret (pv 2))))) pss_nil)
      (pss_cons (ps_set (i := 3) sc__law_draw.nd rfl (Or.inl rfl) (pe_ix (KX.ixU (K := K)) (pv 0) pe_int (fun _ _ => rfl)))
      (pss_cons (ps_asg (pe_op opAdd (pv 3) pe_int) (pg_sub (pv 0) pe_int set_list))
      (pss_cons (ps_set (i := 4) sc__law_draw.nd rfl (Or.inl rfl) (pe_op opAdd (pe_op opMul pe_int (pv 3)) pe_int))
      (Evl.pss_cut (ps_if (pt_cmpR (KX.neU (K := K) rfl hr.units) (pe_ix (KX.ixU (K := K)) (pv 0) pe_int (fun _ _ => rfl)) (pe_lst pa_nil) (nomark _)) (pss_one (ps_set (i := 4) sc__law_draw.nd rfl (Or.inl rfl) (pe_ix (KX.ixU (K := K)) (pe_ix (KX.ixU (K := K)) (pv 0) pe_int (fun _ _ => rfl)) (pe_op op_mod (pe_callTy (KX.callInt (K := K)) (by rfl) T.b_int (by decide +kernel) (pa_cons (pv 3) pa_nil)) (pe_callB (KX.callLen (K := K)) (by rfl) T.b_len (by decide +kernel) (pa_cons (pe_ix (KX.ixU (K := K)) (pv 0) pe_int (fun _ _ => rfl)) pa_nil))) (fun _ _ => rfl)))) pss_nil)
      (pss_cons (ps_if (PW.pt (pw_and (pt_cmpR op_lt (pv 3) (pe_callB (KX.callLen (K := K)) (by rfl) T.b_len (by decide +kernel) (pa_cons (pe_ix (KX.ixU (K := K)) (pv 0) pe_int (fun _ _ => rfl)) pa_nil)) (nomark _)) (pw_and1 (pt_cmpR op_ge (pe_callB call_abs (by rfl) T.b_abs (by decide +kernel) (pa_cons (pv 4) pa_nil)) (pe_op op_pow pe_int pe_int) (nomark _))))) (pss_cons (ps_set (i := 5) sc__law_draw.nd rfl (Or.inl rfl) (pe_op opAdd (pe_op opMul pe_int (pe_op op_sub (pe_callB call_abs (by rfl) T.b_abs (by decide +kernel) (pa_cons (pv 4) pa_nil)) (pe_op op_pow pe_int pe_int))) (pe_callTy (KX.callInt (K := K)) (by rfl) T.b_int (by decide +kernel) (pa_cons (pe_cmpR op_lt (pv 4) pe_int (nomark _)) pa_nil))))
      (pss_cons (ps_asg (pe_op op_fdivW (pe_callTy (KX.callInt (K := K)) (by rfl) T.b_int (by decide +kernel) (pa_cons (pv 5) pa_nil)) (pv 1)) (pg_sub (pv 0) pe_int set_list))
      (pss_one (ps_ret (pe_op op_mod (pe_callTy (KX.callInt (K := K)) (by rfl) T.b_int (by decide +kernel) (pa_cons (pv 5) pa_nil)) (pv 1)))))) pss_nil)
      (pss_cons (ps_set (i := 6) sc__law_draw.nd rfl (Or.inl rfl) (pe_op op_mod (pe_callTy (KX.callInt (K := K)) (by rfl) T.b_int (by decide +kernel) (pa_cons (pe_op op_pow (pe_op opAdd (pe_op opAdd (pe_op op_mod (pe_callTy (KX.callInt (K := K)) (by rfl) T.b_int (by decide +kernel) (pa_cons (pv 4) pa_nil)) pe_int) (pe_op opMul pe_int (pv 3))) pe_int) pe_int) pa_nil)) pe_int))
      (pss_cons (ps_set (i := 6) sc__law_draw.nd rfl (Or.inl rfl) (pe_op op_mod (pe_callTy (KX.callInt (K := K)) (by rfl) T.b_int (by decide +kernel) (pa_cons (pe_op op_pow (pe_op opAdd (pe_op opAdd (pe_op opMul (pv 6) (pe_op opAdd (pe_op opMul pe_int (pv 3)) pe_int)) (pe_op opMul (pe_op opMul pe_int (pv 3)) (pv 3))) pe_int) pe_int) pa_nil)) pe_int))
      (pss_one (ps_ret (pe_op op_mod (pe_callTy (KX.callInt (K := K)) (by rfl) T.b_int (by decide +kernel) (pa_cons (pe_op op_fdivW (pv 6) pe_int) pa_nil)) (pv 1)))))))))))))), ?_⟩
    exact rd_drawS drawC hm hm2 ha hc hn hl k
theorem ok_pick {f : Addr} {fd : FuncData} (F : Fun K "_law_pick" "_law_pick" s__law_pick f fd) (T : Txt K mg C CB CC CM CL CT CN CW) (c__law_draw : Fn P w K mg base CX0 1 "_law_draw" ["_law_pen_here", "_law_many"] spDraw) :
    FnG P w K mg base CX0 2 f fd ["_law_pen_here", "_law_some"] spPick := by
  refine funG F sc__law_pick (fun vs H Q E h => ?_) (fun cd A fr s H vs Q E hr hg h => ?_)
  · obtain ⟨a, l, n, xs, rfl, _⟩ := h; rfl
  · obtain ⟨a, l, n, xs, rfl, hl, hne, hlen, hp, hn, k⟩ := h
    refine ⟨_, (pss_one (ps_ret (pe_ix (KX.ixU (K := K)) (pv 1) (pe_f c__law_draw hr hg pass0 (pa_cons (pv 0) (pa_cons (pe_callB (KX.callLen (K := K)) (by rfl) T.b_len (by decide +kernel) (pa_cons (pv 1) pa_nil)) pa_nil))) (fun _ _ => rfl)))), ?_⟩
    tm_at "s"
    refine s_lenL hl ?_
    have hpos : 0 < xs.length := List.length_pos_iff.mpr hne
    refine ⟨a, n, _, rfl, by omega, ?_, hp, hn, fun d H' d0 d1 hp' hk => ?_⟩
    · rw [Int.natAbs_natCast]
      exact Nat.lt_of_le_of_lt hlen (Nat.lt_of_lt_of_le (by decide : 100000 < 2 ^ 20) (Nat.pow_le_pow_right (by decide) (by decide)))
    · have nl : l ≠ a := hp.ne hl fun c n z => by unfold PenO at z; cases z
      have hd : d.toNat < xs.length := by omega
      refine s_iL (v := xs[d.toNat]) (hk l _ nl hl) (by rw [atI_int d0 d1, List.getElem?_eq_getElem hd]) ?_
      exact k _ _ (List.getElem_mem hd) hp' hk
end
end K13
end
section
local macro_rules | `(tactic| tm_at "s1") => `(tactic| first
  | with_reducible first
    | refine L3.s_seq ?_ | refine L3.s_asg ?_ | refine L3.s_op ?_ | refine L3.s_c ?_ | refine L3.s_cb ?_ | refine L3.s_cons ?_ | refine L3.s_nil ?_ | refine L3.s_test ?_ | refine L3.s_bl ?_
    | refine L3.s_I0 ?_ | refine L3.s_and ?_ | refine L3.s_or ?_ | refine L3.s_not ?_ | refine L3.s_if ?_ | refine L3.s_next ?_ | refine L3.s_ret ?_ | refine L3.s_retN ?_ | refine L3.s_asgS ?_ | refine L3.s_drop ?_
    | refine L3.s_un ?_ | refine L3.s_U ?_ | refine L3.s_int ?_ | refine L3.s_intB ?_ | refine L3.s_abs ?_ | refine L3.s_andV ?_ | refine L3.s_orV ?_ | refine L3.s_notV ?_ | refine L3.s_ifE ?_ | refine L3.s_call ?_ | refine L3.s_lst ?_ | refine L3.s_tup ?_ | refine L3.s_tB ?_
    | refine L3.s_addI ?_ | refine L3.s_inS ?_ | refine L3.s_ninS ?_ | refine L3.s_slice ?_ | refine L3.s_part ?_ | refine L3.s_partI ?_ | refine L3.s_nopart ?_ | refine L3.s_cI ?_ | refine L3.s_cB ?_ | refine L3.s_chain ?_ | refine L3.s_bm ?_ | refine L3.s_lcS ?_ | refine L3.s_lcR ?_ | refine L3.s_strE ?_
    | refine L2.iteT ?_ | refine L2.iteF ?_ | refine L3.iteNF ?_ | refine L3.iteNT ?_
    | refine L3.s_eqI ?_ | refine L3.s_neI ?_ | refine L3.s_eqS ?_ | refine L3.s_neS ?_
    | refine L3.s_pair ?_ | refine L3.s_pair2 ?_ | refine L3.s_fld ?_ | refine L3.s_make ?_ | refine L3.s_m1 ?_ | refine L3.s_isstr ?_
    | refine L3.s_xfV ?_ | refine L3.s_lstN ?_ | refine L3.s_callF ?_ | refine L3.s_lcL ?_ | refine L3.s_par3 ?_ | refine L3.s_trip ?_ | refine L3.s_asgT' ?_ | refine L3.s_gC ?_ | refine L3.s_gN ?_ | refine L3.s_fldG ?_ | refine L3.s_raise1 ?_ | refine L3.s_raise2 ?_ | refine L3.s_star ?_ | refine L3.s_mkCR ?_ | refine L3.s_lcZ ?_ | refine L3.s_forL ?_ | refine L3.s_forT ?_ | refine L3.s_gNm ?_ | refine L3.s_forE ?_ | refine L3.s_stC ?_ | refine L3.s_cmC ?_ | refine L3.s_forR1 ?_ | refine L3.s_lcTp ?_ | refine L3.s_forZ ?_ | refine L3.s_orT ?_
    | refine L3.s_isN ?_ | refine L3.s_isB ?_ | refine L3.s_nisN ?_ | refine L3.s_nisB ?_
  | ((with_reducible refine' L3.s_var ?e ?_); (case e => rfl))
  | ((with_reducible refine' L3.s_aug ?e ?_); (case e => rfl))
  | ((with_reducible refine' L3.s_pow ?c ?_); (case c => exact ⟨by decide, by decide, by decide⟩)))
local macro_rules | `(tactic| tm_at "s") => `(tactic| repeat tm_at "s1")
namespace K13
open PySem PySem.NumText PySem.Spec PyProof.Rows L2 L3 LamX RZ ClX
abbrev s_Chunks___eq__ : Stmt := inClass (topS 28) 23
theorem sc_Chunks___eq__ : FnScope ["self", "other"] ["self", "other"] (defScope s_Chunks___eq__) := ⟨rfl, rfl, rfl, by decide +kernel, rfl, by decide +kernel, by decide +kernel⟩
theorem all_map {α : Type} (f : α → Bool) (l : List α) : (l.map f).all id = l.all f := by rw [List.all_map]; rfl
theorem sz_of {n : Nat} (h : n ≤ 100000) : n < sizeLine := Nat.lt_of_le_of_lt h (by decide)
section
variable {P : Program} {w : World} {K : PySem.W.Frag} {mg : Str → Option Value} {base : Heap} {C CB CC CM CL CT CN CW : Addr}
theorem ok_eq {f : Addr} {fd : FuncData} (F : Fun K "__eq__" "Chunks.__eq__" s_Chunks___eq__ f fd) (T : Txt K mg C CB CC CM CL CT CN CW) : FnOk P w K mg base (L2.CX P w) 1 f fd ["self", "other"] (spCkEq K C) := by
  refine funO F sc_Chunks___eq__ (fun vs H Q E h => ?_) (fun cd A fr s H vs Q E hr h => ?_)
  · obtain ⟨p, y, ns, rfl, _⟩ := h; rfl
  · obtain ⟨p, y, ns, rfl, hc, hy⟩ := h
    refine ⟨_, (pss_one (ps_ret (pe_and (pe_callB (KX.callIsi (K := K)) (by rfl) T.b_isinstance (by decide +kernel) (pa_cons (pv 1) (pa_cons (C8.pe_gc (by rfl) T.g_Chunks) pa_nil))) (pe_one (pe_cmpR (KX.eqU (K := K) rfl hr.units) (KX.fld (K := K) rfl (pv 0) rfl) (KX.fld (K := K) rfl (pv 1) rfl) (nomark _)))))), ?_⟩
    tm_at "s"
    rcases hy with ⟨q, ms, rfl, hq, k⟩ | ⟨⟨ty, t1, t2⟩, k⟩
    · obtain ⟨dx, _, _, _, hq1, _⟩ := id hq
      refine s_isiC (T.c.ty hq1) T.c.kC ?_
      tm_at "s"
      obtain ⟨d1, u1, _, _, i1, h1, _⟩ := id hc
      obtain ⟨d2, u2, _, _, i2, h2, _⟩ := id hq
      refine ⟨p, C, d1, _, _, rfl, i1, T.c.cl, T.nS, rfl, ?_⟩
      tm_at "s"
      refine ⟨q, C, d2, _, _, rfl, i2, T.c.cl, T.nS, rfl, ?_⟩
      refine .inr (s_eqD (.tup (.inl (.inl h1)) (dpInts ns)) (.tup (.inl (.inl h2)) (dpInts ms)) (shTup ns) (shTup ms) ?_)
      rw [eqv_tup]
      exact k
    · refine s_isiC t1 t2 ?_
      tm_at "s"
      exact k
end
end K13
end
section
namespace L3
open PySem PySem.NumText PySem.Spec PyProof.Rows L2 LamX RZ
section
variable {σ : L2.St} {H : Hp} {g : TG} {tb : TS} {D : Ends}
theorem s_forR1 {tr : TA} (h : tr σ H fun ws H1 => ∃ j : Int, ws = [.int j] ∧ -(2 ^ 62) ≤ j ∧ j < 2 ^ 62 ∧ ForJ (Itr 0 j.toNat) g tb D σ H1) : tFor (iRng1 tr) g tb D σ H := h
theorem forRg {lo : Int} {n : Nat} (Pv : Nat → L2.St → Hp → Prop) (h0 : Pv 0 σ H)
    (hb : ∀ (i : Nat) σ H, i < n → Pv i σ H → g (.int (lo + (i : Int))) σ H fun σ2 H2 => tb { nx := Pv (i + 1), rt := D.rt, bk := D.nx, ct := Pv (i + 1) } σ2 H2)
    (he : ∀ σ H, Pv n σ H → D.nx σ H) : ForJ (Itr lo n) g tb D σ H :=
  for_it walk_range Pv h0 (fun i σ H _ h => trivial) (fun i x σ H1 H2 hi hp hy => by
    obtain ⟨rfl, rfl⟩ := hy
    exact hb i σ _ hi hp) he
end
/-- a plain text of at most m signs -/
def Pt (m : Nat) (z : Str) : Prop := z.length ≤ m ∧ ∀ c ∈ z.cps.toList, c < 1114112
theorem strOkO (s : String) : PyData.strOk (Str.ofString s) = true := by
  unfold PyData.strOk
  have e := ofString_codes s
  rw [← Array.all_toList, e, List.all_map]
  refine List.all_eq_true.mpr fun c _ => ?_
  show decide (c.toNat < 0x110000) = true
  refine decide_eq_true ?_
  rcases c.valid with h | ⟨_, h⟩
  · exact Nat.lt_trans h (by decide)
  · exact h
theorem strOkI (i : Int) : PyData.strOk (PyData.int i).shown = true := by
  show PyData.strOk (Str.ofString (toString i)) = true
  exact strOkO _
section
variable {K : PySem.W.Frag} {H : Hp} {Q : VK}
theorem s_reprI {i : Int} (hi : i.natAbs.log2 < 1920) (h : Q (.str (PyData.int i).shown) H) : rRepr K [.int i] H Q :=
  s_repr (.int i) (decide_eq_true hi) (show 0 ≤ 60 by decide) (Nat.le_trans (fit_shown (x := .int i) (decide_eq_true hi)) (by decide +kernel)) h
theorem log_le {n k : Nat} (h : n ≤ k) (hk : k < 2 ^ 1920) : n.log2 < 1920 := by
  rcases Nat.eq_zero_or_pos n with rfl | hp
  · decide
  · exact (Nat.log2_lt (by omega)).mpr (Nat.lt_of_le_of_lt h hk)
theorem log_small {n : Nat} (h : n ≤ 1000000000) : n.log2 < 1920 := log_le h (Nat.lt_of_lt_of_le (by decide +kernel : 1000000000 < 2 ^ 100) (Nat.pow_le_pow_right (by decide) (by decide)))
end
section
variable {K : PySem.W.Frag} {σ : L2.St} {H H' : Hp} {Q : VK} {C : Addr}
theorem s_stC {sp : Sp} {E : XK} {t : TA} (h : t σ H fun vs H2 => sp vs H2 Q E) : tSt C sp E (tC (.ref C)) t σ H Q := ⟨rfl, h⟩
theorem s_cmC {sp : Sp} {E : XK} {t : TA} (h : t σ H fun vs H2 => sp (.ref C :: vs) H2 Q E) : ClX.tCMeth C sp E (tC (.ref C)) t σ H Q := ⟨rfl, h⟩
theorem Ck.keep {q a : Addr} {n : Nat} {ns : List Int} (h : Ck C H q ns) (p : Pen H a n) (k : ∀ b o, b ≠ a → H b = some o → H' b = some o) : Ck C H' q ns := by
  obtain ⟨dx, t1, t2, t3, a1, b, c, d⟩ := h
  have nn : ∀ {q : Addr} {o : HO}, H q = some o → (∀ c n, o ≠ PenO a c n) → H' q = some o := fun {q o} e z => k _ _ (p.ne e z) e
  exact ⟨dx, t1, t2, t3, nn a1 (fun c n z => by unfold PenO at z; cases z), nn b (fun c n z => by unfold PenO at z; cases z), nn c (fun c n z => by unfold PenO at z; cases z), nn d (fun c n z => by unfold PenO at z; cases z)⟩
theorem lst_keep {q a : Addr} {n : Nat} {xs : List V} (h : H q = some (.lst xs)) (p : Pen H a n) (k : ∀ b o, b ≠ a → H b = some o → H' b = some o) : H' q = some (.lst xs) := k _ _ (p.ne h (fun c n z => by unfold PenO at z; cases z)) h
theorem tup_keep {q a : Addr} {n : Nat} {xs : List V} (h : H q = some (.tup xs)) (p : Pen H a n) (k : ∀ b o, b ≠ a → H b = some o → H' b = some o) : H' q = some (.tup xs) := k _ _ (p.ne h (fun c n z => by unfold PenO at z; cases z)) h
end
theorem _root_.L2.SqL.exL {K : PySem.W.Frag} {H H' : Hp} {a : Addr} {xs : List V} (h : SqL K H a xs) (e : Ex H H') : SqL K H' a xs := by
  rcases h with (h | ⟨o, h⟩) | h
  · exact .inl (.inl (e _ _ h))
  · exact .inl (.inr ⟨o, e _ _ h⟩)
  · exact .inr h
theorem _root_.L2.SqT.exT {K : PySem.W.Frag} {H H' : Hp} {a : Addr} {xs : List V} (h : SqT K H a xs) (e : Ex H H') : SqT K H' a xs := by
  rcases h with (h | ⟨o, h⟩) | h
  · exact .inl (.inl (e _ _ h))
  · exact .inl (.inr ⟨o, e _ _ h⟩)
  · exact .inr h
theorem _root_.L2.Dp.ex' {K : PySem.W.Frag} {H H' : Hp} {v : V} {d : PyData} (h : Dp K H v d) (e : Ex H H') : Dp K H' v d := L3.Dp.exN e.n d v (fun a xs h => h.exL e) (fun a xs h => h.exT e) h
theorem s_repG {H : Hp} {Q : VK} {l : Addr} {xs : List V} {k : Int} (e : H l = some (.lst xs)) (h0 : 0 ≤ k) (h1 : k < 2 ^ 62) (hz : xs.length * k.toNat ≤ sizeLine) (h : ∀ p H2, H p = none → Ex H H2 → H2 p = some (.lst (List.replicate k.toNat xs).flatten) → Q (.ref p) H2) : rMulU (.ref l) (.int k) H Q :=
  .inr (.inr ⟨l, k, xs, rfl, rfl, e, by omega, by omega, hz, fun p hp => h p _ hp (ex_new hp) upd_same⟩)
theorem rep_one {α : Type} (n : Nat) (x : α) : (List.replicate n [x]).flatten = List.replicate n x := by
  induction n with
  | zero => rfl
  | succ n ih => rw [List.replicate_succ, List.flatten_cons, ih, List.replicate_succ]; rfl
end L3
end
section
namespace L3
open PySem PySem.NumText PySem.Spec PyProof.Rows L2 LamX RZ
def rLenOwn (C : Addr) (sp : Sp) (E : XK) : List V → Hp → VK → Prop := fun xs H Q => ∃ a dx fs, xs = [.ref a] ∧ H a = some (.ins C dx fs) ∧ sp [.ref a] H (fun z H' => ∃ n : Int, z = .int n ∧ 0 ≤ n ∧ n < 2 ^ 63 ∧ Q (.int n) H') E
theorem callLenOwn {X : Cx} {C : Addr} {k j : Nat} {sp : Sp} {E : XK} (B : Me X.prog X.w X.K X.mg X.base C "__len__" k ["self"] sp) (hr : Room (j + 1) X.A) (hx : Passes (L2.CX X.prog X.w) X E) (hk : k ≤ j := by decide) : CallR X (.builtin "len") (rLenOwn C sp E) := by
  obtain ⟨f, fd, h1, h2, G, b⟩ := B.ex
  intro pins s σ H xs us Q I r h
  obtain ⟨a, dx, fs, rfl, ea, q⟩ := h
  obtain ⟨u, rfl, rx⟩ := vals1 r
  cases (show u = Value.ref a from rx)
  obtain ⟨od, J⟩ := ins_inst I.hok ea
  obtain ⟨m, Fr⟩ := I.fr
  refine PySem.W.len_K Fr I.mod.kin J h1 h2 ?_
  refine wpAny_call (codeAny_mono (G.run X.A.in1 X.stack s H ⟨[.ref a], []⟩ [.ref a] [.ref a] (fun z H' => ∃ n : Int, z = .int n ∧ 0 ≤ n ∧ n < 2 ^ 63 ∧ Q (.int n) H') E (hr.in1.mono hk) I.env0.in1 (by have := b s [.ref a] I.kIn rfl; rw [List.append_nil] at this; exact this) (.cons (show RelV (.ref a) (.ref a) from rfl) .nil) q) fun r s' z => ?_)
  match r, z with
  | .error e, z => exact hx pins σ H s e s' I z
  | .ok (.ret u), z =>
    obtain ⟨v', H', I', r', n, rfl, h0, h1, q'⟩ := I.after z
    obtain ⟨t, rfl⟩ := (show ∃ t, u = Value.int n t from r')
    exact ⟨⟨h0, h1⟩, .int n, H', I'.tok _, ⟨_, rfl⟩, q'⟩
theorem s_mt {C : Addr} {m : Str} {sp : Sp} {dvs : List V} {E : XK} {ta : TE} {t : TA} {σ : L2.St} {H : Hp} {Q : VK} (h : ta σ H fun x H1 => ∃ a dx fs, x = .ref a ∧ H1 a = some (.ins C dx fs) ∧ fs.lookup m = none ∧ t σ H1 fun vs H2 => sp (x :: (vs ++ dvs)) H2 Q E) : tMeth C m sp dvs E ta t σ H Q := h
end L3
end
section
namespace L2
open PySem PySem.Spec PyProof.Rows HT
end L2
namespace HT
open PySem PySem.Spec PyProof.Rows L2
end HT
namespace L3
open PySem PySem.NumText PySem.Spec PyProof.Rows L2 LamX RZ
section
variable {X : Cx}
def tRevT (K : PySem.W.Frag) (te : TE) : TE := fun σ H Q => te σ H fun x H1 => ∃ a xs, x = .ref a ∧ SqT K H1 a xs ∧ ∀ p, H1 p = none → Q (.ref p) (upd H1 p (.tup xs.reverse))
theorem KX.revL {K : PySem.W.Frag} {e : Expr} {te : TE} {k : Nat} {p1 p2 p3 pos : Pos} (hK : X.K = K) (he : PE X e te) : PE X (.Subscript e (.Slice none none (some (.UnaryOp .USub (.Constant (.int 1) k p1) p2)) p3) pos) (L2.tRevL K te) := by subst hK; exact L2.pe_revL he
end
section
variable {K : PySem.W.Frag} {te : TE} {σ : L2.St} {H : Hp} {Q : VK}
theorem s_revT (h : te σ H fun x H1 => ∃ a xs, x = .ref a ∧ SqT K H1 a xs ∧ ∀ p, H1 p = none → Q (.ref p) (upd H1 p (.tup xs.reverse))) : tRevT K te σ H Q := h
theorem s_revL (h : te σ H fun x H1 => ∃ a xs, x = .ref a ∧ SqL K H1 a xs ∧ ∀ p, H1 p = none → Q (.ref p) (upd H1 p (.lst xs.reverse))) : L2.tRevL K te σ H Q := h
end
end L3
end
section
namespace L3
open PySem PySem.NumText PySem.Spec PyProof.Rows L2 LamX RZ
def CkTo (C CM : Addr) (H : Hp) (ns : List Int) (Q : VK) (E : XK) : Prop := (ns.length ≤ 5000 ∧ ∀ r H', Ex H H' → Ck C H' r ns → Q (.ref r) H') ∨ (5000 < ns.length ∧ Rz2 CM "what" "most" (.str "chunks") (.int 5000) H E)
theorem CkTo.g {K : PySem.W.Frag} {C CB CM : Addr} {H : Hp} {ns : List Int} {Q : VK} {E : XK} (h : CkTo C CM H ns Q E) (hl : ns.length ≤ 100000) (hs : ∀ n ∈ ns, siz n) : CkG K CB CM H (ns.map V.int) (fun ns => ∀ q H', H q = none → Ex H H' → Ck C H' q ns → Q (.ref q) H') E :=
  ⟨by rw [List.length_map]; exact hl, .inl ⟨ns, rfl, hs, h.imp (fun ⟨a, b⟩ => ⟨a, fun q H' _ e c => b q H' e c⟩) id⟩⟩
end L3
end
section
namespace L3
open PySem PySem.NumText PySem.Spec PyProof.Rows L2 LamX RZ
def ErP (g : Str) (tag : Str) (c : Addr) (cls : Value) (d : Option Addr) (H' : Hp) (Q : VK) : Prop := ∃ dd v, cls = .ref c ∧ d = some dd ∧ H' dd = some (.xd [(g, v)]) ∧ ∀ p H2, H' p = none → Ex H' H2 → H2 p = some (.tup [.str tag, v]) → Q (.ref p) H2
def ErR (K : PySem.W.Frag) (g : Str) (tag : Str) (c : Addr) (cls : Value) (d : Option Addr) (H' : Hp) (Q : VK) : Prop := ∃ dd v x, cls = .ref c ∧ d = some dd ∧ H' dd = some (.xd [(g, v)]) ∧ Dp K H' v x ∧ x.showable = true ∧ x.depth ≤ 60 ∧ x.shown.length ≤ sizeLine ∧
  ∀ p H2, H' p = none → Ex H' H2 → H2 p = some (.tup [.str tag, .str x.shown]) → Q (.ref p) H2
def ErM (c : Addr) (cls : Value) (d : Option Addr) (H' : Hp) (Q : VK) : Prop := ∃ dd v1 v2, cls = .ref c ∧ d = some dd ∧ H' dd = some (.xd [("most", v2), ("what", v1)]) ∧ ∀ p H2, H' p = none → Ex H' H2 → H2 p = some (.tup [.str "many", v1, v2]) → Q (.ref p) H2
def TTck (K : PySem.W.Frag) (CB CC CM CT CN : Addr) : (XK → Hp → VK → Prop) → Hp → VK → Prop := fun tl H Q => ∀ H0, Ex H H0 → ∀ (W : XK) (S : VK),
  (∀ cls d H', (ErP "part" "chunks" CC cls d H' Q ∨ ErR K "value" "size" CB cls d H' Q ∨ ErR K "value" "total" CT cls d H' Q ∨ ErR K "at" "chunk" CN cls d H' Q ∨ ErM CM cls d H' Q) → W cls d H') →
  (∀ v H', (∀ p H2, H' p = none → Ex H' H2 → H2 p = some (.lst [v]) → Q (.ref p) H2) → S v H') → tl W H0 S
section
variable {K : PySem.W.Frag} {CB CC CM CT CN : Addr} {σ : L2.St} {H : Hp} {Q : VK}
theorem s_hearMy {Tt : List (Addr × Str)} {t : XK → TE} {v1 v2 : V} (ht : Tabs Tt H) (ask : ∀ (E : XK) (H1 : Hp) (Q' : VK), ExtN H H1 → Tabs Tt H1 → Rz2 CM "what" "most" v1 v2 H1 E → t E σ H1 Q')
    (k : ∀ p H', ExtN H H' → Tabs Tt H' → H' p = some (.tup [.str "many", v1, v2]) → Q (.ref p) H') : tLam Tt (TTck K CB CC CM CT CN) t σ H Q := by
  refine ⟨ht, fun H1 e1 t1 H0 e0 W S hW hS => ?_⟩
  show t _ σ H0 _
  exact ask _ H0 _ (e1.trans e0.n) (t1.ext e0) fun d H' nd e' hd => hW _ _ _ (.inr (.inr (.inr (.inr ⟨d, v1, v2, rfl, rfl, hd, fun p H2 np e2 h2 => k p H2 (e1.trans (e0.trans (e'.trans e2)).n) (t1.ext (e0.trans (e'.trans e2))) h2⟩))))
end
/-- the five errors are none of each other -/
structure Kit5 (K : PySem.W.Frag) (CB CC CM CT CN : Addr) : Prop where
  CC_CB : PySem.W.kitOne K (.ref CC) (.ref CB) = some false
  CC_CT : PySem.W.kitOne K (.ref CC) (.ref CT) = some false
  CC_CN : PySem.W.kitOne K (.ref CC) (.ref CN) = some false
  CC_CM : PySem.W.kitOne K (.ref CC) (.ref CM) = some false
  CB_CC : PySem.W.kitOne K (.ref CB) (.ref CC) = some false
  CB_CT : PySem.W.kitOne K (.ref CB) (.ref CT) = some false
  CB_CN : PySem.W.kitOne K (.ref CB) (.ref CN) = some false
  CB_CM : PySem.W.kitOne K (.ref CB) (.ref CM) = some false
  CT_CC : PySem.W.kitOne K (.ref CT) (.ref CC) = some false
  CT_CB : PySem.W.kitOne K (.ref CT) (.ref CB) = some false
  CT_CN : PySem.W.kitOne K (.ref CT) (.ref CN) = some false
  CT_CM : PySem.W.kitOne K (.ref CT) (.ref CM) = some false
  CN_CC : PySem.W.kitOne K (.ref CN) (.ref CC) = some false
  CN_CB : PySem.W.kitOne K (.ref CN) (.ref CB) = some false
  CN_CT : PySem.W.kitOne K (.ref CN) (.ref CT) = some false
  CN_CM : PySem.W.kitOne K (.ref CN) (.ref CM) = some false
  CM_CC : PySem.W.kitOne K (.ref CM) (.ref CC) = some false
  CM_CB : PySem.W.kitOne K (.ref CM) (.ref CB) = some false
  CM_CT : PySem.W.kitOne K (.ref CM) (.ref CT) = some false
  CM_CN : PySem.W.kitOne K (.ref CM) (.ref CN) = some false
theorem s_reprG {K : PySem.W.Frag} {H : Hp} {Q : VK} {v : V} {x : PyData} (hd : Dp K H v x) (h1 : x.showable = true) (h2 : x.depth ≤ 60) (h3 : x.shown.length ≤ sizeLine) (h : Q (.str x.shown) H) : rRepr K [v] H Q := ⟨v, x, rfl, hd, h1, h2, h3, h⟩
end L3
end
section
local macro_rules | `(tactic| tm_at "s1") => `(tactic| first
  | with_reducible first
    | refine L3.s_seq ?_ | refine L3.s_asg ?_ | refine L3.s_op ?_ | refine L3.s_c ?_ | refine L3.s_cb ?_ | refine L3.s_cons ?_ | refine L3.s_nil ?_ | refine L3.s_test ?_ | refine L3.s_bl ?_
    | refine L3.s_I0 ?_ | refine L3.s_and ?_ | refine L3.s_or ?_ | refine L3.s_not ?_ | refine L3.s_if ?_ | refine L3.s_next ?_ | refine L3.s_ret ?_ | refine L3.s_retN ?_ | refine L3.s_asgS ?_ | refine L3.s_drop ?_
    | refine L3.s_un ?_ | refine L3.s_U ?_ | refine L3.s_int ?_ | refine L3.s_intB ?_ | refine L3.s_abs ?_ | refine L3.s_andV ?_ | refine L3.s_orV ?_ | refine L3.s_notV ?_ | refine L3.s_ifE ?_ | refine L3.s_call ?_ | refine L3.s_lst ?_ | refine L3.s_tup ?_ | refine L3.s_tB ?_
    | refine L3.s_addI ?_ | refine L3.s_inS ?_ | refine L3.s_ninS ?_ | refine L3.s_slice ?_ | refine L3.s_part ?_ | refine L3.s_partI ?_ | refine L3.s_nopart ?_ | refine L3.s_cI ?_ | refine L3.s_cB ?_ | refine L3.s_chain ?_ | refine L3.s_bm ?_ | refine L3.s_lcS ?_ | refine L3.s_lcR ?_ | refine L3.s_strE ?_
    | refine L2.iteT ?_ | refine L2.iteF ?_ | refine L3.iteNF ?_ | refine L3.iteNT ?_
    | refine L3.s_eqI ?_ | refine L3.s_neI ?_ | refine L3.s_eqS ?_ | refine L3.s_neS ?_
    | refine L3.s_pair ?_ | refine L3.s_pair2 ?_ | refine L3.s_fld ?_ | refine L3.s_make ?_ | refine L3.s_m1 ?_ | refine L3.s_isstr ?_
    | refine L3.s_xfV ?_ | refine L3.s_lstN ?_ | refine L3.s_callF ?_ | refine L3.s_lcL ?_ | refine L3.s_par3 ?_ | refine L3.s_trip ?_ | refine L3.s_asgT' ?_ | refine L3.s_gC ?_ | refine L3.s_gN ?_ | refine L3.s_fldG ?_ | refine L3.s_raise1 ?_ | refine L3.s_raise2 ?_ | refine L3.s_star ?_ | refine L3.s_mkCR ?_ | refine L3.s_lcZ ?_ | refine L3.s_forL ?_ | refine L3.s_forT ?_ | refine L3.s_gNm ?_ | refine L3.s_forE ?_ | refine L3.s_stC ?_ | refine L3.s_cmC ?_ | refine L3.s_forR1 ?_ | refine L3.s_lcTp ?_ | refine L3.s_forZ ?_ | refine L3.s_orT ?_ | refine L3.s_mt ?_ | refine L3.s_revT ?_ | refine L3.s_revL ?_
    | refine L3.s_isN ?_ | refine L3.s_isB ?_ | refine L3.s_nisN ?_ | refine L3.s_nisB ?_
  | ((with_reducible refine' L3.s_var ?e ?_); (case e => rfl))
  | ((with_reducible refine' L3.s_aug ?e ?_); (case e => rfl))
  | ((with_reducible refine' L3.s_pow ?c ?_); (case c => exact ⟨by decide, by decide, by decide⟩)))
local macro_rules | `(tactic| tm_at "s") => `(tactic| repeat tm_at "s1")
namespace K13
open PySem PySem.NumText PySem.Spec PyProof.Rows L2 L3 LamX RZ ClX
abbrev s__law_heard : Stmt := topS 34
abbrev names__law_heard : List Str := ["_law_ask", "_law_caught", "_law_found", "error", "_law_some"]
theorem sc__law_heard : FnScope ["_law_ask", "_law_caught", "_law_found", "error", "_law_some"] ["_law_ask"] (defScope s__law_heard) := ⟨rfl, rfl, rfl, by decide +kernel, rfl, by decide +kernel, by decide +kernel⟩
theorem heard_gives {X : Cx} {C CB CC CM CL CT CN CW g : Addr} {cdg : Value} {k : Nat} {q : Str} (T : Txt X.K X.mg C CB CC CM CL CT CN CW) (F5 : Kit5 X.K CB CC CM CT CN) (hg : X.A.guards = some []) (hr : Room (k + 1) X.A) :
    GivesTo X names__law_heard "_law_heard" (defScope s__law_heard) g cdg (defBody s__law_heard) "_law_ask" q (TTck X.K CB CC CM CT CN) := by
  intro f c' s H Q tl act hc h
  obtain ⟨K, hK⟩ : ∃ K, X.K = K := ⟨_, rfl⟩
  rw [hK] at T F5 h
  refine ⟨_, pss_cons (ps_asg (pe_tup (pa_cons pe_non (pa_cons pe_non pa_nil))) (KX.tup (K := K) (by exact hK) rfl (pgs_cons (pg_name (i := 1) sc__law_heard.nd rfl (Or.inl rfl)) (pgs_cons (pg_name (i := 2) sc__law_heard.nd rfl (Or.inl rfl)) pgs_nil)))) (pss_cons (ps_try_note (i := 3) (m := 1) (c := .ref CL) (Wout := fun _ _ _ _ => False)
      (tb := fun W D σ H => ∃ Ech : XK, (∀ cls d σ' H', Ech cls d H' → W cls d σ' H') ∧ σ[0]? = some (some (.ref f)) ∧ H c' = some (CodeO c' q) ∧ tl Ech H fun v H' => D.nx (σ.set 2 (some v)) H')
      rfl rfl rfl sc__law_heard.nd rfl rfl rfl rfl ⟨rfl, by decide, .inl T.g_LateError⟩ takes0 rfl rfl rfl (fun W pn xe tk _ => ?_)) (pss_cons (ps_if (pt_cmpR opIs (pv 1) pe_non (nomark _)) (pss_one (ps_ret (pe_lst (pa_cons (pv 2) pa_nil)))) pss_nil)
      (pss_cons (ps_set (i := 4) sc__law_heard.nd rfl (Or.inl rfl) (pe_lst pa_nil))
      (pss_cons (ps_if (pt_val (pe_callB (KX.isiX (K := K) (by exact hK)) (by rfl) T.b_isinstance (by decide +kernel) (pa_cons (pv 1) (pa_cons (C8.pe_gc (by rfl) T.g_BadChunks) pa_nil)))) (pss_one (ps_expr (pe_bm PySem.F.plainAttrs_list PySem.F.slot_list_append PySem.F.type_list_append mt_append (pv 4) (pa_cons (pe_tup (pa_cons pe_str (pa_cons (KX.xfV (K := K) (by exact hK) (pv 1) (by rfl)) pa_nil))) pa_nil)))) pss_nil)
      (pss_cons (ps_if (pt_val (pe_callB (KX.isiX (K := K) (by exact hK)) (by rfl) T.b_isinstance (by decide +kernel) (pa_cons (pv 1) (pa_cons (C8.pe_gc (by rfl) T.g_BadSize) pa_nil)))) (pss_one (ps_expr (pe_bm PySem.F.plainAttrs_list PySem.F.slot_list_append PySem.F.type_list_append mt_append (pv 4) (pa_cons (pe_tup (pa_cons pe_str (pa_cons (pe_callB (KX.callRepr (K := K) (by exact hK) hg (hr.deeper _).units) (by rfl) T.b_repr (by decide +kernel) (pa_cons (KX.xfV (K := K) (by exact hK) (pv 1) (by rfl)) pa_nil)) pa_nil))) pa_nil)))) pss_nil)
      (pss_cons (ps_if (pt_val (pe_callB (KX.isiX (K := K) (by exact hK)) (by rfl) T.b_isinstance (by decide +kernel) (pa_cons (pv 1) (pa_cons (C8.pe_gc (by rfl) T.g_BadTotal) pa_nil)))) (pss_one (ps_expr (pe_bm PySem.F.plainAttrs_list PySem.F.slot_list_append PySem.F.type_list_append mt_append (pv 4) (pa_cons (pe_tup (pa_cons pe_str (pa_cons (pe_callB (KX.callRepr (K := K) (by exact hK) hg (hr.deeper _).units) (by rfl) T.b_repr (by decide +kernel) (pa_cons (KX.xfV (K := K) (by exact hK) (pv 1) (by rfl)) pa_nil)) pa_nil))) pa_nil)))) pss_nil)
      (pss_cons (ps_if (pt_val (pe_callB (KX.isiX (K := K) (by exact hK)) (by rfl) T.b_isinstance (by decide +kernel) (pa_cons (pv 1) (pa_cons (C8.pe_gc (by rfl) T.g_NoChunk) pa_nil)))) (pss_one (ps_expr (pe_bm PySem.F.plainAttrs_list PySem.F.slot_list_append PySem.F.type_list_append mt_append (pv 4) (pa_cons (pe_tup (pa_cons pe_str (pa_cons (pe_callB (KX.callRepr (K := K) (by exact hK) hg (hr.deeper _).units) (by rfl) T.b_repr (by decide +kernel) (pa_cons (KX.xfV (K := K) (by exact hK) (pv 1) (by rfl)) pa_nil)) pa_nil))) pa_nil)))) pss_nil)
      (pss_cons (ps_if (pt_val (pe_callB (KX.isiX (K := K) (by exact hK)) (by rfl) T.b_isinstance (by decide +kernel) (pa_cons (pv 1) (pa_cons (C8.pe_gc (by rfl) T.g_TooMany) pa_nil)))) (pss_one (ps_expr (pe_bm PySem.F.plainAttrs_list PySem.F.slot_list_append PySem.F.type_list_append mt_append (pv 4) (pa_cons (pe_tup (pa_cons pe_str (pa_cons (KX.xfV (K := K) (by exact hK) (pv 1) (by rfl)) (pa_cons (KX.xfV (K := K) (by exact hK) (pv 1) (by rfl)) pa_nil)))) pa_nil)))) pss_nil)
      (pss_one (ps_ret (pe_ifExp (PW.pt (pw_and (pt_cmpR (KX.eqU (K := K) (by exact hK) (hr.deeper _).units) (pe_callB (KX.callLen (K := K) (by exact hK)) (by rfl) T.b_len (by decide +kernel) (pa_cons (pv 4) pa_nil)) pe_int (nomark _)) (pw_and1 (pt_val (pe_callB (KX.isiX (K := K) (by exact hK)) (by rfl) T.b_isinstance (by decide +kernel) (pa_cons (pv 1) (pa_cons (pe_bltn (v := .ty "ValueError") (u := .type "ValueError") (by rfl) T.b_ValueError (by decide +kernel) rfl) pa_nil))))))) (pe_ix (KX.ixU (K := K) (by exact hK)) (pv 4) pe_int (fun _ _ => rfl)) (pe_tup (pa_cons pe_str pa_nil))))))))))))), ?_⟩
  · refine ⟨fun pins s' σ H' D I h' => ?_⟩
    obtain ⟨Ech, hW, h1, h2, h3⟩ := h'
    have hp := fun p1 p2 => act W pn xe Ech p1 p2 tk hW
    exact (pss_one (ps_set (i := 2) sc__law_heard.nd rfl (Or.inl rfl) (hp _ _))).run pins s' σ H' D I ⟨h1, h2, h3⟩
  · tm_at "s"
    refine s_new (Nat.le_of_lt (small1000 (by simp))) fun nn H0 hnn e0 hn0 => ?_
    refine s_gT hn0 rfl ?_
    tm_at "s"
    refine ⟨fun cls d H' => ErP "part" "chunks" CC cls d H' Q ∨ ErR K "value" "size" CB cls d H' Q ∨ ErR K "value" "total" CT cls d H' Q ∨ ErR K "at" "chunk" CN cls d H' Q ∨ ErM CM cls d H' Q, ?_, rfl, e0 _ _ hc, h H0 e0 _ _ (fun cls d H' z => z) (fun v H1 kq => ?_)⟩
    · rintro cls d σ' H1 (⟨dd, v, rfl, rfl, hdd, k1⟩ | ⟨dd, v, xd, rfl, rfl, hdd, hx1, hx2, hx3, hx4, k1⟩ | ⟨dd, v, xd, rfl, rfl, hdd, hx1, hx2, hx3, hx4, k1⟩ | ⟨dd, v, xd, rfl, rfl, hdd, hx1, hx2, hx3, hx4, k1⟩ | ⟨dd, v1, v2, rfl, rfl, hdd, k1⟩)
      · refine ⟨true, by have e := T.r.em; rw [← hK] at e; exact e, fun _ hl a ha => ?_, fun z => nomatch z⟩
        obtain ⟨x, y, z, u, w5, rfl⟩ : ∃ x y z u w5, σ' = [x, y, z, u, w5] := by
          match σ', hl with
          | [x, y, z, u, w5], _ => exact ⟨x, y, z, u, w5, rfl⟩
        have hx : Ex H1 (upd H1 a (ExV a (.ref CC) (some dd))) := ex_new ha
        have hd2 := hx _ _ hdd
        have ha2 : (upd H1 a (ExV a (.ref CC) (some dd))) a = some (ExV a (.ref CC) (some dd)) := upd_same
        generalize upd H1 a (ExV a (.ref CC) (some dd)) = H2 at hx hd2 ha2 ⊢
        try dsimp only
        tm_at "s"
        refine iteD (fun z => nomatch z) (fun _ => ?_)
        tm_at "s"
        refine s_new (Nat.le_of_lt (small1000 (by simp))) fun ls H3 nls e3 hls => ?_
        have ha3 := e3 _ _ ha2
        have hd3 := e3 _ _ hd2
        have nal : a ≠ ls := ne_of_none ha2 nls
        have ndl : dd ≠ ls := ne_of_none hd2 nls
        try dsimp only
        tm_at "s"
        refine .inr ⟨a, CC, dd, _, _, _, true, rfl, .own CC, ha3, hd3, T.r.exc, T.r.kB, ?_⟩
        tm_at "s"
        refine s_tyL hls ?_
        tm_at "s"
        refine ⟨a, CC, dd, _, v, rfl, ha3, hd3, T.r.xf, T.r.nV _ (by simp), rfl, ?_⟩
        tm_at "s"
        refine s_new (Nat.le_of_lt (small1000 (by simp))) fun p H4 hp e4 h4 => ?_
        have npl : p ≠ ls := fun z => by rw [z, hls] at hp; cases hp
        tm_at "s"
        refine s_app (e4 _ _ hls) (small1000 (by simp)) ?_
        have ha5 : (upd H4 ls (HO.lst ([] ++ [V.ref p]))) a = some (ExV a (.ref CC) (some dd)) := by rw [upd_ne nal]; exact e4 _ _ ha3
        have hd5 : (upd H4 ls (HO.lst ([] ++ [V.ref p]))) dd = some (.xd [("part", v)]) := by rw [upd_ne ndl]; exact e4 _ _ hd3
        have hl5 : (upd H4 ls (HO.lst ([] ++ [V.ref p]))) ls = some (.lst [.ref p]) := upd_same
        have hp5 : (upd H4 ls (HO.lst ([] ++ [V.ref p]))) p = some (.tup [.str "chunks", v]) := by rw [upd_ne npl]; exact h4
        have ex5 : Ex H1 (upd H4 ls (HO.lst ([] ++ [V.ref p]))) := fun b o hb => by rw [upd_ne (ne_of_none (hx _ _ hb) nls)]; exact e4 _ _ (e3 _ _ (hx _ _ hb))
        generalize upd H4 ls (HO.lst ([] ++ [V.ref p])) = H5 at ha5 hd5 hl5 hp5 ex5 ⊢
        try dsimp only
        tm_at "s"
        refine .inr ⟨a, CC, dd, _, _, _, false, rfl, .own CB, ha5, hd5, T.r.exc, F5.CC_CB, ?_⟩
        tm_at "s"
        refine .inr ⟨a, CC, dd, _, _, _, false, rfl, .own CT, ha5, hd5, T.r.exc, F5.CC_CT, ?_⟩
        tm_at "s"
        refine .inr ⟨a, CC, dd, _, _, _, false, rfl, .own CN, ha5, hd5, T.r.exc, F5.CC_CN, ?_⟩
        tm_at "s"
        refine .inr ⟨a, CC, dd, _, _, _, false, rfl, .own CM, ha5, hd5, T.r.exc, F5.CC_CM, ?_⟩
        tm_at "s"
        refine s_lenL hl5 ?_
        tm_at "s"
        refine iteD (fun _ => ?_) (fun z => absurd rfl z)
        tm_at "s"
        refine .inr ⟨a, CC, dd, _, _, _, true, rfl, .ty "ValueError", ha5, hd5, T.r.exc, T.r.kV, ?_⟩
        tm_at "s"
        refine s_iL (v := .ref p) hl5 rfl ?_
        tm_at "s"
        exact k1 p H5 ((hx.trans e3).free hp) ex5 hp5
      · refine ⟨true, by have e := T.s.em; rw [← hK] at e; exact e, fun _ hl a ha => ?_, fun z => nomatch z⟩
        obtain ⟨x, y, z, u, w5, rfl⟩ : ∃ x y z u w5, σ' = [x, y, z, u, w5] := by
          match σ', hl with
          | [x, y, z, u, w5], _ => exact ⟨x, y, z, u, w5, rfl⟩
        have hx : Ex H1 (upd H1 a (ExV a (.ref CB) (some dd))) := ex_new ha
        have hd2 := hx _ _ hdd
        have ha2 : (upd H1 a (ExV a (.ref CB) (some dd))) a = some (ExV a (.ref CB) (some dd)) := upd_same
        generalize upd H1 a (ExV a (.ref CB) (some dd)) = H2 at hx hd2 ha2 ⊢
        try dsimp only
        tm_at "s"
        refine iteD (fun z => nomatch z) (fun _ => ?_)
        tm_at "s"
        refine s_new (Nat.le_of_lt (small1000 (by simp))) fun ls H3 nls e3 hls => ?_
        have ha3 := e3 _ _ ha2
        have hd3 := e3 _ _ hd2
        have nal : a ≠ ls := ne_of_none ha2 nls
        have ndl : dd ≠ ls := ne_of_none hd2 nls
        try dsimp only
        tm_at "s"
        refine .inr ⟨a, CB, dd, _, _, _, false, rfl, .own CC, ha3, hd3, T.s.exc, F5.CB_CC, ?_⟩
        tm_at "s"
        refine .inr ⟨a, CB, dd, _, _, _, true, rfl, .own CB, ha3, hd3, T.s.exc, T.s.kB, ?_⟩
        tm_at "s"
        refine s_tyL hls ?_
        tm_at "s"
        refine ⟨a, CB, dd, _, v, rfl, ha3, hd3, T.s.xf, T.s.nV _ (by simp), rfl, ?_⟩
        tm_at "s"
        refine s_reprG (hx1.ex' (hx.trans e3)) hx2 hx3 hx4 ?_
        tm_at "s"
        refine s_new (Nat.le_of_lt (small1000 (by simp))) fun p H4 hp e4 h4 => ?_
        have npl : p ≠ ls := fun z => by rw [z, hls] at hp; cases hp
        tm_at "s"
        refine s_app (e4 _ _ hls) (small1000 (by simp)) ?_
        have ha5 : (upd H4 ls (HO.lst ([] ++ [V.ref p]))) a = some (ExV a (.ref CB) (some dd)) := by rw [upd_ne nal]; exact e4 _ _ ha3
        have hd5 : (upd H4 ls (HO.lst ([] ++ [V.ref p]))) dd = some (.xd [("value", v)]) := by rw [upd_ne ndl]; exact e4 _ _ hd3
        have hl5 : (upd H4 ls (HO.lst ([] ++ [V.ref p]))) ls = some (.lst [.ref p]) := upd_same
        have hp5 : (upd H4 ls (HO.lst ([] ++ [V.ref p]))) p = some (.tup [.str "size", .str xd.shown]) := by rw [upd_ne npl]; exact h4
        have ex5 : Ex H1 (upd H4 ls (HO.lst ([] ++ [V.ref p]))) := fun b o hb => by rw [upd_ne (ne_of_none (hx _ _ hb) nls)]; exact e4 _ _ (e3 _ _ (hx _ _ hb))
        generalize upd H4 ls (HO.lst ([] ++ [V.ref p])) = H5 at ha5 hd5 hl5 hp5 ex5 ⊢
        try dsimp only
        tm_at "s"
        refine .inr ⟨a, CB, dd, _, _, _, false, rfl, .own CT, ha5, hd5, T.s.exc, F5.CB_CT, ?_⟩
        tm_at "s"
        refine .inr ⟨a, CB, dd, _, _, _, false, rfl, .own CN, ha5, hd5, T.s.exc, F5.CB_CN, ?_⟩
        tm_at "s"
        refine .inr ⟨a, CB, dd, _, _, _, false, rfl, .own CM, ha5, hd5, T.s.exc, F5.CB_CM, ?_⟩
        tm_at "s"
        refine s_lenL hl5 ?_
        tm_at "s"
        refine iteD (fun _ => ?_) (fun z => absurd rfl z)
        tm_at "s"
        refine .inr ⟨a, CB, dd, _, _, _, true, rfl, .ty "ValueError", ha5, hd5, T.s.exc, T.s.kV, ?_⟩
        tm_at "s"
        refine s_iL (v := .ref p) hl5 rfl ?_
        tm_at "s"
        exact k1 p H5 ((hx.trans e3).free hp) ex5 hp5
      · refine ⟨true, by have e := T.t.em; rw [← hK] at e; exact e, fun _ hl a ha => ?_, fun z => nomatch z⟩
        obtain ⟨x, y, z, u, w5, rfl⟩ : ∃ x y z u w5, σ' = [x, y, z, u, w5] := by
          match σ', hl with
          | [x, y, z, u, w5], _ => exact ⟨x, y, z, u, w5, rfl⟩
        have hx : Ex H1 (upd H1 a (ExV a (.ref CT) (some dd))) := ex_new ha
        have hd2 := hx _ _ hdd
        have ha2 : (upd H1 a (ExV a (.ref CT) (some dd))) a = some (ExV a (.ref CT) (some dd)) := upd_same
        generalize upd H1 a (ExV a (.ref CT) (some dd)) = H2 at hx hd2 ha2 ⊢
        try dsimp only
        tm_at "s"
        refine iteD (fun z => nomatch z) (fun _ => ?_)
        tm_at "s"
        refine s_new (Nat.le_of_lt (small1000 (by simp))) fun ls H3 nls e3 hls => ?_
        have ha3 := e3 _ _ ha2
        have hd3 := e3 _ _ hd2
        have nal : a ≠ ls := ne_of_none ha2 nls
        have ndl : dd ≠ ls := ne_of_none hd2 nls
        try dsimp only
        tm_at "s"
        refine .inr ⟨a, CT, dd, _, _, _, false, rfl, .own CC, ha3, hd3, T.t.exc, F5.CT_CC, ?_⟩
        tm_at "s"
        refine .inr ⟨a, CT, dd, _, _, _, false, rfl, .own CB, ha3, hd3, T.t.exc, F5.CT_CB, ?_⟩
        tm_at "s"
        refine .inr ⟨a, CT, dd, _, _, _, true, rfl, .own CT, ha3, hd3, T.t.exc, T.t.kB, ?_⟩
        tm_at "s"
        refine s_tyL hls ?_
        tm_at "s"
        refine ⟨a, CT, dd, _, v, rfl, ha3, hd3, T.t.xf, T.t.nV _ (by simp), rfl, ?_⟩
        tm_at "s"
        refine s_reprG (hx1.ex' (hx.trans e3)) hx2 hx3 hx4 ?_
        tm_at "s"
        refine s_new (Nat.le_of_lt (small1000 (by simp))) fun p H4 hp e4 h4 => ?_
        have npl : p ≠ ls := fun z => by rw [z, hls] at hp; cases hp
        tm_at "s"
        refine s_app (e4 _ _ hls) (small1000 (by simp)) ?_
        have ha5 : (upd H4 ls (HO.lst ([] ++ [V.ref p]))) a = some (ExV a (.ref CT) (some dd)) := by rw [upd_ne nal]; exact e4 _ _ ha3
        have hd5 : (upd H4 ls (HO.lst ([] ++ [V.ref p]))) dd = some (.xd [("value", v)]) := by rw [upd_ne ndl]; exact e4 _ _ hd3
        have hl5 : (upd H4 ls (HO.lst ([] ++ [V.ref p]))) ls = some (.lst [.ref p]) := upd_same
        have hp5 : (upd H4 ls (HO.lst ([] ++ [V.ref p]))) p = some (.tup [.str "total", .str xd.shown]) := by rw [upd_ne npl]; exact h4
        have ex5 : Ex H1 (upd H4 ls (HO.lst ([] ++ [V.ref p]))) := fun b o hb => by rw [upd_ne (ne_of_none (hx _ _ hb) nls)]; exact e4 _ _ (e3 _ _ (hx _ _ hb))
        generalize upd H4 ls (HO.lst ([] ++ [V.ref p])) = H5 at ha5 hd5 hl5 hp5 ex5 ⊢
        try dsimp only
        tm_at "s"
        refine .inr ⟨a, CT, dd, _, _, _, false, rfl, .own CN, ha5, hd5, T.t.exc, F5.CT_CN, ?_⟩
        tm_at "s"
        refine .inr ⟨a, CT, dd, _, _, _, false, rfl, .own CM, ha5, hd5, T.t.exc, F5.CT_CM, ?_⟩
        tm_at "s"
        refine s_lenL hl5 ?_
        tm_at "s"
        refine iteD (fun _ => ?_) (fun z => absurd rfl z)
        tm_at "s"
        refine .inr ⟨a, CT, dd, _, _, _, true, rfl, .ty "ValueError", ha5, hd5, T.t.exc, T.t.kV, ?_⟩
        tm_at "s"
        refine s_iL (v := .ref p) hl5 rfl ?_
        tm_at "s"
        exact k1 p H5 ((hx.trans e3).free hp) ex5 hp5
      · refine ⟨true, by have e := T.n.em; rw [← hK] at e; exact e, fun _ hl a ha => ?_, fun z => nomatch z⟩
        obtain ⟨x, y, z, u, w5, rfl⟩ : ∃ x y z u w5, σ' = [x, y, z, u, w5] := by
          match σ', hl with
          | [x, y, z, u, w5], _ => exact ⟨x, y, z, u, w5, rfl⟩
        have hx : Ex H1 (upd H1 a (ExV a (.ref CN) (some dd))) := ex_new ha
        have hd2 := hx _ _ hdd
        have ha2 : (upd H1 a (ExV a (.ref CN) (some dd))) a = some (ExV a (.ref CN) (some dd)) := upd_same
        generalize upd H1 a (ExV a (.ref CN) (some dd)) = H2 at hx hd2 ha2 ⊢
        try dsimp only
        tm_at "s"
        refine iteD (fun z => nomatch z) (fun _ => ?_)
        tm_at "s"
        refine s_new (Nat.le_of_lt (small1000 (by simp))) fun ls H3 nls e3 hls => ?_
        have ha3 := e3 _ _ ha2
        have hd3 := e3 _ _ hd2
        have nal : a ≠ ls := ne_of_none ha2 nls
        have ndl : dd ≠ ls := ne_of_none hd2 nls
        try dsimp only
        tm_at "s"
        refine .inr ⟨a, CN, dd, _, _, _, false, rfl, .own CC, ha3, hd3, T.n.exc, F5.CN_CC, ?_⟩
        tm_at "s"
        refine .inr ⟨a, CN, dd, _, _, _, false, rfl, .own CB, ha3, hd3, T.n.exc, F5.CN_CB, ?_⟩
        tm_at "s"
        refine .inr ⟨a, CN, dd, _, _, _, false, rfl, .own CT, ha3, hd3, T.n.exc, F5.CN_CT, ?_⟩
        tm_at "s"
        refine .inr ⟨a, CN, dd, _, _, _, true, rfl, .own CN, ha3, hd3, T.n.exc, T.n.kB, ?_⟩
        tm_at "s"
        refine s_tyL hls ?_
        tm_at "s"
        refine ⟨a, CN, dd, _, v, rfl, ha3, hd3, T.n.xf, T.n.nV _ (by simp), rfl, ?_⟩
        tm_at "s"
        refine s_reprG (hx1.ex' (hx.trans e3)) hx2 hx3 hx4 ?_
        tm_at "s"
        refine s_new (Nat.le_of_lt (small1000 (by simp))) fun p H4 hp e4 h4 => ?_
        have npl : p ≠ ls := fun z => by rw [z, hls] at hp; cases hp
        tm_at "s"
        refine s_app (e4 _ _ hls) (small1000 (by simp)) ?_
        have ha5 : (upd H4 ls (HO.lst ([] ++ [V.ref p]))) a = some (ExV a (.ref CN) (some dd)) := by rw [upd_ne nal]; exact e4 _ _ ha3
        have hd5 : (upd H4 ls (HO.lst ([] ++ [V.ref p]))) dd = some (.xd [("at", v)]) := by rw [upd_ne ndl]; exact e4 _ _ hd3
        have hl5 : (upd H4 ls (HO.lst ([] ++ [V.ref p]))) ls = some (.lst [.ref p]) := upd_same
        have hp5 : (upd H4 ls (HO.lst ([] ++ [V.ref p]))) p = some (.tup [.str "chunk", .str xd.shown]) := by rw [upd_ne npl]; exact h4
        have ex5 : Ex H1 (upd H4 ls (HO.lst ([] ++ [V.ref p]))) := fun b o hb => by rw [upd_ne (ne_of_none (hx _ _ hb) nls)]; exact e4 _ _ (e3 _ _ (hx _ _ hb))
        generalize upd H4 ls (HO.lst ([] ++ [V.ref p])) = H5 at ha5 hd5 hl5 hp5 ex5 ⊢
        try dsimp only
        tm_at "s"
        refine .inr ⟨a, CN, dd, _, _, _, false, rfl, .own CM, ha5, hd5, T.n.exc, F5.CN_CM, ?_⟩
        tm_at "s"
        refine s_lenL hl5 ?_
        tm_at "s"
        refine iteD (fun _ => ?_) (fun z => absurd rfl z)
        tm_at "s"
        refine .inr ⟨a, CN, dd, _, _, _, true, rfl, .ty "ValueError", ha5, hd5, T.n.exc, T.n.kV, ?_⟩
        tm_at "s"
        refine s_iL (v := .ref p) hl5 rfl ?_
        tm_at "s"
        exact k1 p H5 ((hx.trans e3).free hp) ex5 hp5
      · refine ⟨true, by have e := T.m.em; rw [← hK] at e; exact e, fun _ hl a ha => ?_, fun z => nomatch z⟩
        obtain ⟨x, y, z, u, w5, rfl⟩ : ∃ x y z u w5, σ' = [x, y, z, u, w5] := by
          match σ', hl with
          | [x, y, z, u, w5], _ => exact ⟨x, y, z, u, w5, rfl⟩
        have hx : Ex H1 (upd H1 a (ExV a (.ref CM) (some dd))) := ex_new ha
        have hd2 := hx _ _ hdd
        have ha2 : (upd H1 a (ExV a (.ref CM) (some dd))) a = some (ExV a (.ref CM) (some dd)) := upd_same
        generalize upd H1 a (ExV a (.ref CM) (some dd)) = H2 at hx hd2 ha2 ⊢
        try dsimp only
        tm_at "s"
        refine iteD (fun z => nomatch z) (fun _ => ?_)
        tm_at "s"
        refine s_new (Nat.le_of_lt (small1000 (by simp))) fun ls H3 nls e3 hls => ?_
        have ha3 := e3 _ _ ha2
        have hd3 := e3 _ _ hd2
        have nal : a ≠ ls := ne_of_none ha2 nls
        have ndl : dd ≠ ls := ne_of_none hd2 nls
        try dsimp only
        tm_at "s"
        refine .inr ⟨a, CM, dd, _, _, _, false, rfl, .own CC, ha3, hd3, T.m.exc, F5.CM_CC, ?_⟩
        tm_at "s"
        refine .inr ⟨a, CM, dd, _, _, _, false, rfl, .own CB, ha3, hd3, T.m.exc, F5.CM_CB, ?_⟩
        tm_at "s"
        refine .inr ⟨a, CM, dd, _, _, _, false, rfl, .own CT, ha3, hd3, T.m.exc, F5.CM_CT, ?_⟩
        tm_at "s"
        refine .inr ⟨a, CM, dd, _, _, _, false, rfl, .own CN, ha3, hd3, T.m.exc, F5.CM_CN, ?_⟩
        tm_at "s"
        refine .inr ⟨a, CM, dd, _, _, _, true, rfl, .own CM, ha3, hd3, T.m.exc, T.m.kB, ?_⟩
        tm_at "s"
        refine s_tyL hls ?_
        tm_at "s"
        refine ⟨a, CM, dd, _, v1, rfl, ha3, hd3, T.m.xf, T.m.nV _ (by simp), rfl, ?_⟩
        tm_at "s"
        refine ⟨a, CM, dd, _, v2, rfl, ha3, hd3, T.m.xf, T.m.nV _ (by simp), rfl, ?_⟩
        tm_at "s"
        refine s_new (Nat.le_of_lt (small1000 (by simp))) fun p H4 hp e4 h4 => ?_
        have npl : p ≠ ls := fun z => by rw [z, hls] at hp; cases hp
        tm_at "s"
        refine s_app (e4 _ _ hls) (small1000 (by simp)) ?_
        have ha5 : (upd H4 ls (HO.lst ([] ++ [V.ref p]))) a = some (ExV a (.ref CM) (some dd)) := by rw [upd_ne nal]; exact e4 _ _ ha3
        have hd5 : (upd H4 ls (HO.lst ([] ++ [V.ref p]))) dd = some (.xd [("most", v2), ("what", v1)]) := by rw [upd_ne ndl]; exact e4 _ _ hd3
        have hl5 : (upd H4 ls (HO.lst ([] ++ [V.ref p]))) ls = some (.lst [.ref p]) := upd_same
        have hp5 : (upd H4 ls (HO.lst ([] ++ [V.ref p]))) p = some (.tup [.str "many", v1, v2]) := by rw [upd_ne npl]; exact h4
        have ex5 : Ex H1 (upd H4 ls (HO.lst ([] ++ [V.ref p]))) := fun b o hb => by rw [upd_ne (ne_of_none (hx _ _ hb) nls)]; exact e4 _ _ (e3 _ _ (hx _ _ hb))
        generalize upd H4 ls (HO.lst ([] ++ [V.ref p])) = H5 at ha5 hd5 hl5 hp5 ex5 ⊢
        try dsimp only
        tm_at "s"
        refine s_lenL hl5 ?_
        tm_at "s"
        refine iteD (fun _ => ?_) (fun z => absurd rfl z)
        tm_at "s"
        refine .inr ⟨a, CM, dd, _, _, _, true, rfl, .ty "ValueError", ha5, hd5, T.m.exc, T.m.kV, ?_⟩
        tm_at "s"
        refine s_iL (v := .ref p) hl5 rfl ?_
        tm_at "s"
        exact k1 p H5 ((hx.trans e3).free hp) ex5 hp5
    · try dsimp only
      tm_at "s"
      refine iteD (fun _ => ?_) (fun z => absurd rfl z)
      tm_at "s"
      refine s_new (Nat.le_of_lt (small1000 (by simp))) fun p H3 hp e3 h3 => ?_
      exact kq p H3 hp e3 h3
/-- the def that hears, as the text has it -/
structure HeF (K : PySem.W.Frag) (mg : Str → Option Value) : Prop where
  ex : ∃ (g : Addr) (gd : FuncData), L2.Fun K "_law_heard" "_law_heard" s__law_heard g gd ∧ mg "_law_heard" = some (.ref g) ∧ L2.Binds K gd ["_law_ask"] []
theorem pe__law_heard {X : Cx} {TT : List (Addr × Str)} {C CB CC CM CL CT CN CW c Pt : Addr} {k : Nat} {params : Arguments} {body : Expr} {scope : Scope} {t : XK → TE} {p lpos pos : Pos} (FH : HeF X.K X.mg) (T : Txt X.K X.mg C CB CC CM CL CT CN CW) (F5 : Kit5 X.K CB CC CM CT CN) (TB : TabB X.base X.mg c Pt) (hg : X.A.guards = some []) (hr : Room (k + 2) X.A)
    (hmT : (Pt, X.env.qual ++ "<lambda>") ∈ TT) (huT : ∀ p ∈ TT, p.1 = Pt → p.2 = X.env.qual ++ "<lambda>") (L : LamS X.env.scope scope)
    (hbody : ∀ (A : Around) (outer : List Env) (s : Shared) (H : Hp) (E : XK) (f c' : Addr), Room k (A.deeper (lamEnv X scope s.heap.objs.size f c')) → PE (lamCx X A outer s H E scope f c') body (t E))
    (gl : Gl X "_law_heard" := by rfl) (hcode : X.env.code = .ref c := by rfl) (hdef : defaultsOf params X.env = ([], []) := by rfl)
    (hbind : ∀ (q : Str) (cl : List (Str × Addr)) (pm cv ctv : Value), bindArgs (PySem.W.kla_fn "<lambda>" q params body scope cl pm cv ctv) ⟨[], []⟩ = pure [] := by intros; rfl) :
    PE X (.Call (.Name "_law_heard" p) [.Lambda params body scope lpos] [] pos) (tLam TT (TTck X.K CB CC CM CT CN) t) := by
  obtain ⟨g, gd, F, m, b⟩ := FH.ex
  obtain ⟨oc, od, kV, doc, pm, an, cd, ct, sl, rfl, lk, hcd⟩ := F.ex
  exact pe_lamcall gl m F.kp lk hcd b sc__law_heard rfl (.inl rfl) (heard_gives T F5 hg hr) TB hcode hmT huT hr L hdef hbind hbody
end K13
end
section
namespace L3
open PySem PySem.NumText PySem.Spec PyProof.Rows L2 LamX RZ
theorem canAll {l : List PyData} (h : ∀ d ∈ l, d.canLay0 = true) : PyData.canLayAll0 l = true := by
  induction l with
  | nil => rfl
  | cons x r ih =>
    unfold PyData.canLayAll0
    rw [h x List.mem_cons_self, ih fun d hd => h d (List.mem_cons_of_mem _ hd)]
    rfl
theorem depAll {l : List PyData} {k : Nat} (h : ∀ d ∈ l, d.depth ≤ k) : PyData.depthAll l ≤ k := by
  induction l with
  | nil => exact Nat.zero_le _
  | cons x r ih =>
    unfold PyData.depthAll
    have h1 := h x List.mem_cons_self
    have h2 := ih fun d hd => h d (List.mem_cons_of_mem _ hd)
    first | omega | exact Nat.max_le.mpr ⟨h1, h2⟩
end L3
end
section
namespace L3
open PySem PySem.NumText PySem.Spec PyProof.Rows L2 LamX RZ
theorem s_listT {K : PySem.W.Frag} {H : Hp} {Q : VK} {p : Addr} {xs : List V} (hs : H p = some (.tup xs)) (h : ∀ q H2, H q = none → Ex H H2 → H2 q = some (.lst xs) → Q (.ref q) H2) : rListU K [.ref p] H Q :=
  .inl ⟨p, xs, rfl, .inr (.inl (.inl hs)), fun l hl => h l _ hl (ex_new hl) upd_same⟩
theorem atI_nat {α : Type} {xs : List α} {j : Nat} {v : α} (h : xs[j]? = some v) : atI xs (j : Int) = some v := by
  rw [atI_int (by omega) (by have := (List.getElem?_eq_some_iff.mp h).1; omega), Int.toNat_natCast]
  exact h
end L3
end
section
namespace L3
open PySem PySem.NumText PySem.Spec PyProof.Rows L2 LamX RZ
def Hds (H : Hp) : List Addr → List (List V) → Prop
  | [], [] => True
  | q :: qs, t :: ts => H q = some (.tup t) ∧ Hds H qs ts
  | _, _ => False
theorem Hds.imp {H H' : Hp} : ∀ {qs : List Addr} {ts : List (List V)}, Hds H qs ts → (∀ q t, H q = some (.tup t) → H' q = some (.tup t)) → Hds H' qs ts
  | [], [], _, _ => trivial
  | _ :: _, _ :: _, ⟨a, b⟩, k => ⟨k _ _ a, Hds.imp b k⟩
  | [], _ :: _, h, _ => h.elim
  | _ :: _, [], h, _ => h.elim
theorem Hds.app {H : Hp} {q : Addr} {t : List V} (hq : H q = some (.tup t)) : ∀ {qs : List Addr} {ts : List (List V)}, Hds H qs ts → Hds H (qs ++ [q]) (ts ++ [t])
  | [], [], _ => ⟨hq, trivial⟩
  | _ :: _, _ :: _, ⟨a, b⟩ => ⟨a, Hds.app hq b⟩
  | [], _ :: _, h => h.elim
  | _ :: _, [], h => h.elim
theorem Hds.len {H : Hp} : ∀ {qs : List Addr} {ts : List (List V)}, Hds H qs ts → qs.length = ts.length
  | [], [], _ => rfl
  | _ :: _, _ :: _, ⟨_, b⟩ => by rw [List.length_cons, List.length_cons, Hds.len b]
  | [], _ :: _, h => h.elim
  | _ :: _, [], h => h.elim
theorem Hds.dp {K : PySem.W.Frag} {H : Hp} {f : List V → List PyData} : ∀ {qs : List Addr} {ts : List (List V)}, Hds H qs ts → (∀ t ∈ ts, DpAll K H t (f t)) → DpAll K H (qs.map V.ref) (ts.map fun t => .tuple (f t))
  | [], [], _, _ => .nil
  | _ :: _, t :: _, ⟨a, b⟩, h => .cons (.tup (.inl (.inl a)) (h t List.mem_cons_self)) (Hds.dp b fun u hu => h u (List.mem_cons_of_mem _ hu))
  | [], _ :: _, h, _ => h.elim
  | _ :: _, [], h, _ => h.elim
def HdAt (H : Hp) (hl : Addr) (ts : List (List V)) : Prop := ∃ qs : List Addr, H hl = some (.lst (qs.map V.ref)) ∧ Hds H qs ts
theorem HdAt.ex {H H' : Hp} {hl : Addr} {ts : List (List V)} (h : HdAt H hl ts) (e : Ex H H') : HdAt H' hl ts := by
  obtain ⟨qs, a, b⟩ := h
  exact ⟨qs, e _ _ a, b.imp fun q t h => e _ _ h⟩
theorem HdAt.exN {H H' : Hp} {hl : Addr} {ts : List (List V)} (h : HdAt H hl ts) (e : ExtN H H') : HdAt H' hl ts := by
  obtain ⟨qs, a, b⟩ := h
  exact ⟨qs, e _ _ a (fun _ z => nomatch z), b.imp fun q t h => e _ _ h (fun _ z => nomatch z)⟩
theorem HdAt.one {H : Hp} {hl q : Addr} {t : List V} (a : H hl = some (.lst [.ref q])) (b : H q = some (.tup t)) : HdAt H hl [t] := ⟨[q], a, b, trivial⟩
/-- one more is heard and put behind -/
theorem HdAt.put {H : Hp} {hl q : Addr} {ts : List (List V)} {t : List V} {Q : VK} (h : HdAt H hl ts) (hn : ts.length < 900) (hq : H q = some (.tup t)) (k : ∀ H', (∀ b o, b ≠ hl → H b = some o → H' b = some o) → (∀ p n T, Wo T H p n → Wo T H' p n) → HdAt H' hl (ts ++ [t]) → Q .non H') : rAppend (.ref hl) [.ref q] H Q := by
  obtain ⟨qs, a, b⟩ := h
  have hl' := b.len
  refine s_app a (small1000 (by rw [List.length_map]; omega)) (k _ (fun c o hc e => by rw [upd_ne hc]; exact e) (fun p n T w => w.up a) ⟨qs ++ [q], by rw [upd_same, List.map_append]; rfl, ?_⟩)
  refine (b.app hq).imp fun c u hc => ?_
  rw [upd_ne (fun z => by rw [z, a] at hc; cases hc)]
  exact hc
theorem HdAt.sq {H : Hp} {hl : Addr} {ts : List (List V)} (h : HdAt H hl ts) {K : PySem.W.Frag} {R : Prop} (r : R) : tyV K "list" (.ref hl) H ∧ R := by
  obtain ⟨qs, a, _⟩ := h
  exact s_tyL a r
theorem HdAt.dp {K : PySem.W.Frag} {H : Hp} {hl : Addr} {ts : List (List V)} {f : List V → List PyData} (h : HdAt H hl ts) (k : ∀ t ∈ ts, DpAll K H t (f t)) : Dp K H (.ref hl) (.list (ts.map fun t => .tuple (f t))) := by
  obtain ⟨qs, a, b⟩ := h
  exact .lst (.inl (.inl a)) (b.dp k)
end L3
end
section
namespace L3
open PySem PySem.NumText PySem.Spec PyProof.Rows L2 LamX RZ ClX
structure StR (P : Program) (w : World) (K : PySem.W.Frag) (mg : Str → Option Value) (base : Heap) (CX : CXT) (k : Nat) (C : Addr) (m : Str) (ps : List Str) (sp : Sp) : Prop where
  ex : ∃ (mc : Value) (p g : Addr) (gd : FuncData) (rest : List Value), CRead K C mc ∧ PySem.W.findCls K (.ref C) mc m = some (.get (.builtin "staticmethod.__get__") (.ref p) .none (.ref C)) ∧ PySem.W.recIn K p "staticmethod" = some (.ref g :: rest) ∧ PySem.W.handedIn (.ref g) = true ∧
    PySem.W.keepIn K (.ref g) = true ∧ FnOk P w K mg base CX k g gd ps sp ∧ ∀ (s : Shared) (ws : List Value), K.In s.heap → ws.length = ps.length → BindsTo s gd ⟨[], ps.reverse.zip ws⟩ (ps.zip ws.reverse)
def tStR (C : Addr) (sp : Sp) (E : XK) (ta : TE) (t : TA) : TE := fun σ H Q => ta σ H fun x H1 => x = .ref C ∧ t σ H1 fun vs H2 => sp vs.reverse H2 Q E
theorem vals_rev {vs : List V} {us : List Value} (r : Vals vs us) : Vals vs.reverse us.reverse := by
  induction r with
  | nil => exact .nil
  | cons a _ ih => rw [List.reverse_cons, List.reverse_cons]; exact ih.append (.cons a .nil)
section
variable {X : Cx} {CX : CXT} {k j : Nat} {C : Addr} {sp : Sp} {E : XK} {o e : Expr} {es : List Expr} {m : Str} {ps : List Str} {pos apos : Pos} {ta : TE} {t : TA} {pl : Sem Bool}
theorem pe_stR {kws : List Keyword} (c : StR X.prog X.w X.K X.mg X.base CX k C m ps sp) (hr : Room j X.A) (hx : Passes CX X E) (he : PE X o ta) (ha : PK X kws t) (hk : k ≤ j := by decide)
    (hall : (backToKw pos (keywordEach kws X.env)).all (·.1.isSome) = true := by rfl) (hks : (backToKw pos (keywordEach kws X.env)).filterMap (·.1) = ps.reverse := by rfl) (hpl : ((backTo pos (starEach [] X.env)).any (·.1) || (backToKw pos (keywordEach kws X.env)).any (·.1.isNone)) = false := by rfl)
    (ht : eval (.Call (.Attribute o m apos) [] kws pos) X.env = (do
      let ov ← eval o X.env
      standAt apos.atName
      let (f, first) ← holding [ov] (getMethod ov m pl)
      callWith pos f first (backTo pos (starEach [] X.env)) (backToKw pos (keywordEach kws X.env))) := by rfl) :
    PE X (.Call (.Attribute o m apos) [] kws pos) (tStR C sp E ta t) := by
  obtain ⟨mc, p, g, gd, rest, r, h1, h2, h3, kp, F, b⟩ := c.ex
  refine ⟨fun pins s σ H Q I h => ?_⟩
  refine PySem.W.methodCall_KW (pl := pl) (thn (he.run pins s σ H _ I h) fun u s1 hh => ?_) ht
  obtain ⟨x, H1, I1, rx, ex, q⟩ := hh
  subst ex
  obtain rfl : u = Value.ref C := rx
  refine getst I1 r h1 h2 h3 fun s2 I2 => ?_
  refine PySem.W.callWith_KW0 (h₀ := X.base) (first := []) I2.ok.mod.kin kp hall (thn (ha.run pos pins s2 σ H1 _ I2 q) fun us s3 hh => ?_) hpl
  obtain ⟨vs, H2, I3, rv, q2⟩ := hh
  rw [hks]
  refine ⟨I3.kIn, ?_⟩
  have hl : us.length = ps.length := by rw [← rv.length, ← List.length_reverse]; exact F.len _ _ _ _ q2
  refine wpAny_call (codeAny_mono (F.run X.A X.stack s3 H2 ⟨[], ps.reverse.zip us⟩ us.reverse vs.reverse Q E (hr.mono hk) I3.env0 (b s3 us I3.kIn hl) (vals_rev rv) q2) fun y s' z => ?_)
  match y, z with
  | .error e, z => exact hx pins σ H2 s3 e s' I3 z
  | .ok (.ret u), z => exact I3.after z
end
section
variable {K : PySem.W.Frag} {σ : L2.St} {H : Hp} {Q : VK} {C CB CC CM CT CN : Addr}
theorem s_stR {sp : Sp} {E : XK} {t : TA} (h : t σ H fun vs H2 => sp vs.reverse H2 Q E) : tStR C sp E (tC (.ref C)) t σ H Q := ⟨rfl, h⟩
theorem KX.sortedI {X : Cx} (hK : X.K = K) : CallR X (.builtin "sorted") (rSortedI K) := hK ▸ cr_sortedI
theorem s_sortI {a : Addr} {ns : List Int} (h : SqL K H a (ns.map V.int)) (k : ∀ (ns' : List Int) (p : Addr) (H2 : Hp), ns'.Perm ns → ns'.Pairwise (· ≤ ·) → H p = none → Ex H H2 → H2 p = some (.lst (ns'.map V.int)) → Q (.ref p) H2) : rSortedI K [.ref a] H Q :=
  ⟨a, ns, rfl, h, fun ns' p a b c => k ns' p _ a b c (ex_new c) upd_same⟩
/-- a quotient by what is above 0 -/
theorem s_divP {i j : Int} (h0 : 0 < j) (h1 : j ≤ 10 ^ 40) (h : Q (.int (i / j)) H) : rI CDivW (fun i j => V.int (i / j)) (.int i) (.int j) H Q :=
  ⟨i, j, rfl, rfl, wide_div (b := 200) h0 (Nat.lt_of_le_of_lt (show j.natAbs ≤ 10 ^ 40 by omega) (by decide +kernel)) (by decide) (by decide), h⟩
theorem lt40 {x : Int} (h : -(10 ^ 40) ≤ x ∧ x ≤ 10 ^ 40) : x.natAbs < 2 ^ 200 := Nat.lt_of_le_of_lt (show x.natAbs ≤ 10 ^ 40 by omega) (by decide +kernel)
theorem s_mulB {i j : Int} (hi : -(10 ^ 40) ≤ i ∧ i ≤ 10 ^ 40) (hj : -(10 ^ 40) ≤ j ∧ j ≤ 10 ^ 40) (h : Q (.int (i * j)) H) : rMulU (.int i) (.int j) H Q :=
  s_mulW (lt40 hi) (lt40 hj) (by decide) (by decide) (by decide) h
/-- a value that is refused, heard with its text -/
structure ShV (H : Hp) (K : PySem.W.Frag) (v : V) (x : PyData) : Prop where
  dp : Dp K H v x
  sh : x.showable = true
  dep : x.depth ≤ 60
  len : x.shown.length ≤ sizeLine
  ok : PyData.strOk x.shown = true
theorem sqL_exN {H H' : Hp} {a : Addr} {xs : List V} (h : SqL K H a xs) (e : ExtN H H') : SqL K H' a xs := by
  rcases h with (h | ⟨o, h⟩) | h
  · exact .inl (.inl (e _ _ h fun _ z => nomatch z))
  · exact .inl (.inr ⟨o, e _ _ h fun _ z => nomatch z⟩)
  · exact .inr h
theorem sqT_exN {H H' : Hp} {a : Addr} {xs : List V} (h : SqT K H a xs) (e : ExtN H H') : SqT K H' a xs := by
  rcases h with (h | ⟨o, h⟩) | h
  · exact .inl (.inl (e _ _ h fun _ z => nomatch z))
  · exact .inl (.inr ⟨o, e _ _ h fun _ z => nomatch z⟩)
  · exact .inr h
theorem ShV.up {H H' : Hp} {v : V} {x : PyData} (h : ShV H K v x) (e : ExtN H H') : Dp K H' v x := Dp.exN e x v (fun _ _ z => sqL_exN z e) (fun _ _ z => sqT_exN z e) h.dp
theorem ShV.exN {H H' : Hp} {v : V} {x : PyData} (h : ShV H K v x) (e : ExtN H H') : ShV H' K v x := ⟨h.up e, h.sh, h.dep, h.len, h.ok⟩
theorem ShV.int {H : Hp} {i : Int} (h : i.natAbs ≤ 10 ^ 40) : ShV H K (.int i) (.int i) :=
  have h2 : i.natAbs.log2 < 1920 := log_le h (by decide +kernel)
  ⟨.int i, decide_eq_true h2, Nat.zero_le _, Nat.le_trans (fit_shown (x := .int i) (decide_eq_true h2)) (by decide +kernel), strOkI i⟩
theorem s_hkSz {Tt : List (Addr × Str)} {t : XK → TE} {v : V} {x : PyData} (ht : Tabs Tt H) (hx : ShV H K v x) (ask : ∀ (E : XK) (H1 : Hp) (Q' : VK), ExtN H H1 → Tabs Tt H1 → Rz CB "value" v H1 E → t E σ H1 Q')
    (k : ∀ p H', ExtN H H' → Tabs Tt H' → H' p = some (.tup [.str "size", .str x.shown]) → Q (.ref p) H') : tLam Tt (TTck K CB CC CM CT CN) t σ H Q := by
  refine ⟨ht, fun H1 e1 t1 H0 e0 W S hW hS => ?_⟩
  show t _ σ H0 _
  exact ask _ H0 _ (e1.trans e0.n) (t1.ext e0) fun d H' nd e' hd => hW _ _ _ (.inr (.inl ⟨d, v, x, rfl, rfl, hd, hx.up (e1.trans (e0.trans e').n), hx.sh, hx.dep, hx.len, fun p H2 np e2 h2 => k p H2 (e1.trans (e0.trans (e'.trans e2)).n) (t1.ext (e0.trans (e'.trans e2))) h2⟩))
theorem s_hkTo {Tt : List (Addr × Str)} {t : XK → TE} {v : V} {x : PyData} (ht : Tabs Tt H) (hx : ShV H K v x) (ask : ∀ (E : XK) (H1 : Hp) (Q' : VK), ExtN H H1 → Tabs Tt H1 → Rz CT "value" v H1 E → t E σ H1 Q')
    (k : ∀ p H', ExtN H H' → Tabs Tt H' → H' p = some (.tup [.str "total", .str x.shown]) → Q (.ref p) H') : tLam Tt (TTck K CB CC CM CT CN) t σ H Q := by
  refine ⟨ht, fun H1 e1 t1 H0 e0 W S hW hS => ?_⟩
  show t _ σ H0 _
  exact ask _ H0 _ (e1.trans e0.n) (t1.ext e0) fun d H' nd e' hd => hW _ _ _ (.inr (.inr (.inl ⟨d, v, x, rfl, rfl, hd, hx.up (e1.trans (e0.trans e').n), hx.sh, hx.dep, hx.len, fun p H2 np e2 h2 => k p H2 (e1.trans (e0.trans (e'.trans e2)).n) (t1.ext (e0.trans (e'.trans e2))) h2⟩)))
end
def evenL (t s : Int) : List Int := List.replicate (t / s).toNat s ++ (if 0 < t - t / s * s then [t - t / s * s] else [])
theorem div_rest {t s : Int} (hs : 0 < s) : 0 ≤ t - t / s * s ∧ t - t / s * s < s := by
  have h1 := Int.emod_nonneg t (show s ≠ 0 by omega)
  have h2 := Int.emod_lt_of_pos t hs
  have h3 := Int.emod_def t s
  rw [Int.mul_comm] at h3
  omega
theorem ceil_iff {a b m : Int} (hb : 0 < b) : (a + b - 1) / b ≤ m ↔ a ≤ m * b := by
  have h := div_rest (t := a + b - 1) hb
  generalize (a + b - 1) / b = q at h
  constructor
  · intro z
    have := Int.mul_le_mul_of_nonneg_right z (Int.le_of_lt hb)
    omega
  · intro z
    refine Int.le_of_lt_add_one (Int.lt_of_not_ge fun y => ?_)
    have := Int.mul_le_mul_of_nonneg_right y (Int.le_of_lt hb)
    rw [Int.add_mul, Int.one_mul] at this
    omega
theorem ceil_uniq {a b m : Int} (hb : 0 < b) (h1 : a ≤ m * b) (h2 : (m - 1) * b < a) : (a + b - 1) / b = m := by
  refine Int.le_antisymm ((ceil_iff hb).mpr h1) ?_
  have h := div_rest (t := a + b - 1) hb
  generalize (a + b - 1) / b = q at h
  refine Int.le_of_lt_add_one (Int.lt_of_not_ge fun y => ?_)
  have := Int.mul_le_mul_of_nonneg_right (show q ≤ m - 1 by omega) (Int.le_of_lt hb)
  omega
theorem evenL_len {t s : Int} (ht : 0 ≤ t) (hs : 0 < s) : ((evenL t s).length : Int) = (t + s - 1) / s := by
  have h := div_rest (t := t) hs
  have hq : 0 ≤ t / s := Int.ediv_nonneg ht (Int.le_of_lt hs)
  symm
  unfold evenL
  rw [List.length_append, List.length_replicate]
  by_cases z : 0 < t - t / s * s
  · rw [if_pos z]
    refine ceil_uniq hs ?_ ?_
    · rw [List.length_singleton]
      rw [show (((t / s).toNat + 1 : Nat) : Int) = t / s + 1 by omega, Int.add_mul]
      omega
    · rw [List.length_singleton, show (((t / s).toNat + 1 : Nat) : Int) - 1 = t / s by omega]
      omega
  · rw [if_neg z]
    refine ceil_uniq hs ?_ ?_
    · rw [List.length_nil, show (((t / s).toNat + 0 : Nat) : Int) = t / s by omega]
      omega
    · rw [List.length_nil, show (((t / s).toNat + 0 : Nat) : Int) - 1 = t / s - 1 by omega, Int.sub_mul]
      omega
theorem sum_rep (n : Nat) (x : Int) : (List.replicate n x).sum = (n : Int) * x := by
  induction n with
  | zero => simp
  | succ n ih => rw [List.replicate_succ, List.sum_cons, ih, show ((n + 1 : Nat) : Int) = (n : Int) + 1 by omega, Int.add_mul]; omega
theorem evenL_sum {t s : Int} (ht : 0 ≤ t) (hs : 0 < s) : (evenL t s).sum = t := by
  have h := div_rest (t := t) hs
  have hq : 0 ≤ t / s := Int.ediv_nonneg ht (Int.le_of_lt hs)
  unfold evenL
  rw [List.sum_append, sum_rep, Int.toNat_of_nonneg hq]
  by_cases z : 0 < t - t / s * s
  · rw [if_pos z, List.sum_cons, List.sum_nil]; omega
  · rw [if_neg z, List.sum_nil]; omega
theorem evenL_siz {t s : Int} (hs : siz s) : ∀ n ∈ evenL t s, siz n := by
  intro n hn
  unfold evenL at hn
  have h := div_rest (t := t) (s := s) (by unfold siz at hs; omega)
  rcases List.mem_append.mp hn with hn | hn
  · rw [List.eq_of_mem_replicate hn]; exact hs
  · by_cases z : 0 < t - t / s * s
    · rw [if_pos z, List.mem_singleton] at hn
      subst hn
      unfold siz at *
      omega
    · rw [if_neg z] at hn; exact nomatch hn
def shQ (t m : Int) : Int := if 0 < m then t / m else 0
def sharedL (t m : Int) : List Int := (List.range m.toNat).map fun i => if ((i : Nat) : Int) < t - shQ t m * m then shQ t m + 1 else shQ t m
theorem sharedL_len (t m : Int) : (sharedL t m).length = m.toNat := by unfold sharedL; rw [List.length_map, List.length_range]
theorem sh_sum (q g : Int) (n : Nat) (h0 : 0 ≤ g) : ((List.range n).map fun i => if ((i : Nat) : Int) < g then q + 1 else q).sum = (n : Int) * q + min g n := by
  induction n with
  | zero => simp; omega
  | succ n ih =>
    rw [List.range_succ, List.map_append, List.sum_append, ih, show ((n + 1 : Nat) : Int) = (n : Int) + 1 by omega, Int.add_mul]
    simp only [List.map_cons, List.map_nil, List.sum_cons, List.sum_nil]
    split <;> omega
theorem sh_facts {t m : Int} (ht : 0 ≤ t) (h1 : min t 1 ≤ m) (h2 : m ≤ t) : 0 ≤ m ∧ 0 ≤ t - shQ t m * m ∧ (0 < m → t - shQ t m * m < m ∧ 1 ≤ shQ t m) := by
  have hm : 0 ≤ m := by omega
  refine ⟨hm, ?_, fun z => ?_⟩
  · unfold shQ
    by_cases z : 0 < m
    · rw [if_pos z]; exact (div_rest z).1
    · rw [if_neg z]; omega
  · unfold shQ
    rw [if_pos z]
    refine ⟨(div_rest z).2, ?_⟩
    have h := div_rest (t := t) z
    generalize t / m = q at h
    have : 0 < q := Int.lt_of_not_ge fun y => by
      have := Int.mul_le_mul_of_nonneg_right (show q ≤ 0 by omega) hm
      omega
    omega
theorem sharedL_sum {t m : Int} (ht : 0 ≤ t) (h1 : min t 1 ≤ m) (h2 : m ≤ t) : (sharedL t m).sum = t := by
  obtain ⟨hm, h0, h3⟩ := sh_facts ht h1 h2
  unfold sharedL
  rw [sh_sum _ _ _ h0, Int.toNat_of_nonneg hm]
  by_cases z : 0 < m
  · have := (h3 z).1
    rw [Int.mul_comm]; omega
  · have : m = 0 := by omega
    subst this
    rw [Int.zero_mul]
    omega
theorem sharedL_siz {t m : Int} (ht : 0 ≤ t) (ht2 : t ≤ 10 ^ 30) (h1 : min t 1 ≤ m) (h2 : m ≤ t) : ∀ n ∈ sharedL t m, siz n := by
  obtain ⟨hm, h0, h3⟩ := sh_facts ht h1 h2
  intro n hn
  unfold sharedL at hn
  obtain ⟨i, hi, rfl⟩ := List.mem_map.mp hn
  have hi := List.mem_range.mp hi
  have hm1 : 0 < m := by omega
  obtain ⟨h4, h5⟩ := h3 hm1
  have h6 : shQ t m ≤ shQ t m * m := by
    have := Int.mul_le_mul_of_nonneg_left (show (1 : Int) ≤ m by omega) (show 0 ≤ shQ t m by omega)
    omega
  unfold siz
  split <;> omega
theorem sharedL_desc (t m : Int) : (sharedL t m).Pairwise (fun a b => b ≤ a) := by
  unfold sharedL
  rw [List.pairwise_map]
  refine List.Pairwise.imp ?_ List.pairwise_lt_range
  intro a b hab
  split <;> split <;> omega
theorem sharedL_ends {t m : Int} (h1 : 0 < m) (hg : t - shQ t m * m < m) : (sharedL t m)[0]? = some (if 0 < t - shQ t m * m then shQ t m + 1 else shQ t m) ∧ (sharedL t m)[m.toNat - 1]? = some (shQ t m) := by
  unfold sharedL
  constructor
  · rw [List.getElem?_map, List.getElem?_range (by omega)]; rfl
  · rw [List.getElem?_map, List.getElem?_range (by omega)]
    simp only [Option.map_some, Option.some.injEq]
    rw [if_neg (by omega)]
def tapS (t f l : Int) : Int := if 1 < (2 * t + (f + l) - 1) / (f + l) then (f - l) / ((2 * t + (f + l) - 1) / (f + l) - 1) else 0
def tapR (t f s : Int) : Nat → Int
  | 0 => t
  | i + 1 => if 0 < tapR t f s i then max 0 (tapR t f s i - (f - (i : Int) * s)) else 0
def tapL (t f s : Int) : Nat → List Int
  | 0 => []
  | i + 1 => tapL t f s i ++ (if 0 < tapR t f s i then [min (f - (i : Int) * s) (tapR t f s i)] else [])
theorem tapR_s (t f s : Int) (i : Nat) : tapR t f s (i + 1) = if 0 < tapR t f s i then max 0 (tapR t f s i - (f - (i : Int) * s)) else 0 := rfl
theorem tapL_s (t f s : Int) (i : Nat) : tapL t f s (i + 1) = tapL t f s i ++ (if 0 < tapR t f s i then [min (f - (i : Int) * s) (tapR t f s i)] else []) := rfl
theorem tapR_nn {t f s : Int} (h : 0 ≤ t) : ∀ n, 0 ≤ tapR t f s n
  | 0 => h
  | n + 1 => by rw [tapR_s]; split <;> omega
theorem tapR_stay {t f s : Int} {n : Nat} (h : tapR t f s n = 0) : ∀ k, tapR t f s (n + k) = 0 ∧ tapL t f s (n + k) = tapL t f s n
  | 0 => ⟨h, rfl⟩
  | k + 1 => by
    obtain ⟨a, b⟩ := tapR_stay h k
    refine ⟨?_, ?_⟩
    · show tapR t f s ((n + k) + 1) = 0
      rw [tapR_s, if_neg (by omega)]
    · show tapL t f s ((n + k) + 1) = _
      rw [tapL_s, if_neg (by omega), List.append_nil, b]
theorem tap_same {t f s : Int} {n m : Nat} (h1 : tapR t f s n = 0) (h2 : tapR t f s m = 0) : tapL t f s n = tapL t f s m := by
  rcases Nat.le_total n m with z | z
  · obtain ⟨k, rfl⟩ := Nat.exists_eq_add_of_le z
    exact (tapR_stay h1 k).2.symm
  · obtain ⟨k, rfl⟩ := Nat.exists_eq_add_of_le z
    exact (tapR_stay h2 k).2
theorem tap_sum (t f s : Int) (ht : 0 ≤ t) : ∀ n, (tapL t f s n).sum + tapR t f s n = t
  | 0 => by simp [tapL, tapR]
  | n + 1 => by
    have ih := tap_sum t f s ht n
    have h0 := tapR_nn (f := f) (s := s) ht n
    rw [tapL_s, tapR_s, List.sum_append]
    split
    · rw [List.sum_cons, List.sum_nil]; omega
    · rw [List.sum_nil]; omega
theorem tap_len {t f s : Int} : ∀ n, (∀ i, i < n → 0 < tapR t f s i) → (tapL t f s n).length = n
  | 0, _ => rfl
  | n + 1, h => by
    rw [tapL_s, if_pos (h n (Nat.lt_succ_self n)), List.length_append, tap_len n fun i hi => h i (Nat.lt_succ_of_lt hi)]
    rfl
theorem tap_le {t f s : Int} : ∀ n, (tapL t f s n).length ≤ n
  | 0 => Nat.le_refl _
  | n + 1 => by
    have := tap_le (t := t) (f := f) (s := s) n
    rw [tapL_s, List.length_append]
    split
    · rw [List.length_singleton]; omega
    · rw [List.length_nil]; omega
theorem tap0 {t f : Int} (ht : 0 ≤ t) (hf : 0 ≤ f) : ∀ n, tapR t f 0 n = max 0 (t - (n : Int) * f)
  | 0 => by unfold tapR; simp; omega
  | n + 1 => by
    have ih := tap0 ht hf n
    rw [tapR_s, ih, Int.mul_zero, show ((n + 1 : Nat) : Int) = (n : Int) + 1 by omega, Int.add_mul]
    split <;> omega
section
variable {t f l : Int}
abbrev tapM (t f l : Int) : Int := (2 * t + (f + l) - 1) / (f + l)
theorem tapM_le (ht : 0 ≤ t) (hl : 1 ≤ l) (hf : l ≤ f) : 0 ≤ tapM t f l ∧ 2 * t ≤ tapM t f l * (f + l) := by
  refine ⟨Int.ediv_nonneg (by omega) (by omega), (ceil_iff (by omega)).mp (Int.le_refl _)⟩
theorem tapS_nn (ht : 0 ≤ t) (hl : 1 ≤ l) (hf : l ≤ f) : 0 ≤ tapS t f l ∧ (tapM t f l - 1) * tapS t f l ≤ f - l := by
  unfold tapS
  show 0 ≤ (if 1 < tapM t f l then (f - l) / (tapM t f l - 1) else 0) ∧ (tapM t f l - 1) * (if 1 < tapM t f l then (f - l) / (tapM t f l - 1) else 0) ≤ f - l
  split
  next h =>
    refine ⟨Int.ediv_nonneg (by omega) (by omega), ?_⟩
    exact Int.mul_ediv_self_le (by omega)
  next h => refine ⟨Int.le_refl _, by omega⟩
/-- the sizes are above 0 as long as there are chunks -/
theorem tap_size (ht : 0 ≤ t) (hl : 1 ≤ l) (hf : l ≤ f) {i : Int} (h0 : 0 ≤ i) (hi : i < tapM t f l) : l ≤ f - i * tapS t f l ∧ f - i * tapS t f l ≤ f := by
  obtain ⟨h1, h2⟩ := tapS_nn ht hl hf
  have h3 := Int.mul_le_mul_of_nonneg_right (show i ≤ tapM t f l - 1 by omega) h1
  have h4 := Int.mul_nonneg h0 h1
  omega
theorem tapR_form (ht : 0 ≤ t) (hl : 1 ≤ l) (hf : l ≤ f) : ∀ n : Nat, (n : Int) ≤ tapM t f l → 2 * tapR t f (tapS t f l) n = max 0 (2 * t - 2 * ((n : Int) * f) + tapS t f l * ((n : Int) * ((n : Int) - 1)))
  | 0, _ => by unfold tapR; simp; omega
  | n + 1, h => by
    have ih := tapR_form ht hl hf n (by omega)
    obtain ⟨h1, h2⟩ := tap_size ht hl hf (i := (n : Int)) (by omega) (by omega)
    rw [tapR_s]
    generalize tapS t f l = s at *
    generalize tapR t f s n = r at *
    rw [show ((n + 1 : Nat) : Int) = (n : Int) + 1 by omega]
    rw [show ((n : Int) + 1) * ((n : Int) + 1 - 1) = (n : Int) * ((n : Int) - 1) + 2 * (n : Int) by rw [Int.add_sub_cancel, Int.add_mul, Int.one_mul, Int.mul_sub, Int.mul_one]; omega]
    rw [Int.mul_add, Int.add_mul, Int.one_mul, show s * (2 * (n : Int)) = 2 * ((n : Int) * s) by rw [Int.mul_comm (n : Int) s, ← Int.mul_assoc, Int.mul_comm s 2, Int.mul_assoc]]
    generalize (n : Int) * s = y at *
    generalize s * ((n : Int) * ((n : Int) - 1)) = z at *
    generalize (n : Int) * f = x at *
    split <;> omega
theorem tapR_end (ht : 0 ≤ t) (hl : 1 ≤ l) (hf : l ≤ f) : tapR t f (tapS t f l) (tapM t f l).toNat = 0 := by
  obtain ⟨m0, m1⟩ := tapM_le ht hl hf
  obtain ⟨s0, s1⟩ := tapS_nn ht hl hf
  have h := tapR_form ht hl hf (tapM t f l).toNat (by omega)
  rw [Int.toNat_of_nonneg m0] at h
  generalize tapM t f l = m at *
  generalize tapS t f l = s at *
  have h2 := Int.mul_le_mul_of_nonneg_left s1 m0
  rw [show s * (m * (m - 1)) = m * ((m - 1) * s) by rw [Int.mul_comm s, Int.mul_assoc]] at h
  rw [Int.mul_sub] at h2
  rw [Int.mul_add] at m1
  generalize m * ((m - 1) * s) = z at *
  omega
theorem tapR_pos (ht : 0 ≤ t) (hl : 1 ≤ l) (hf : l ≤ f) {n : Nat} (h : 0 < tapR t f (tapS t f l) n) : (n : Int) < tapM t f l := by
  obtain ⟨m0, _⟩ := tapM_le ht hl hf
  refine Int.lt_of_not_ge fun z => ?_
  have e := tapR_end ht hl hf
  obtain ⟨k, hk⟩ := Nat.exists_eq_add_of_le (show (tapM t f l).toNat ≤ n by omega)
  rw [hk, (tapR_stay e k).1] at h
  omega
theorem tapL_siz (ht : 0 ≤ t) (hl : 1 ≤ l) (hf : l ≤ f) (hf2 : f ≤ 10 ^ 30) : ∀ n, ∀ x ∈ tapL t f (tapS t f l) n, siz x
  | 0, x, hx => nomatch hx
  | n + 1, x, hx => by
    rw [tapL_s] at hx
    rcases List.mem_append.mp hx with hx | hx
    · exact tapL_siz ht hl hf hf2 n x hx
    · by_cases z : 0 < tapR t f (tapS t f l) n
      · rw [if_pos z, List.mem_singleton] at hx
        obtain ⟨h1, h2⟩ := tap_size ht hl hf (i := (n : Int)) (by omega) (tapR_pos ht hl hf z)
        subst hx
        unfold siz
        omega
      · rw [if_neg z] at hx; exact nomatch hx
end
section
variable {K : PySem.W.Frag} {σ : L2.St} {H : Hp} {Q : VK}
/-- [f(i) for i in range(N)] -/
theorem lcR2 {te : TE} {N j : Nat} {vs : List Nat} (f : Nat → V) (hN : N < sizeLine) (hw : ∀ x, wipe ((wipe σ vs).set j (some x)) vs = wipe σ vs)
    (he : ∀ (i : Nat) (H1 : Hp) (R : VK), i < N → Ex H H1 → (∀ H2, Ex H1 H2 → R (f i) H2) → te ((wipe σ vs).set j (some (.int (0 + (i : Int))))) H1 R)
    (k : ∀ D H2, H D = none → Ex H H2 → H2 D = some (.lst ((List.range N).map f)) → Q (.ref D) H2) : LC (Itr 0 N) (gName j) tYes te vs σ H Q := by
  intro D hD
  refine lc_range (fun i H1 => Ex H H1 ∧ H1 D = some (.lst ((List.range i).map f))) ⟨ex_new hD, upd_same⟩ (fun i H1 hi ⟨e, h1⟩ => ?_) fun H1 ⟨e, h1⟩ => k D H1 hD e h1
  refine ⟨hw _, ?_⟩
  unfold tYes
  dsimp only
  refine iteT (he i H1 _ hi e fun H2 e2 => ?_)
  have h2 := e2 _ _ h1
  refine ⟨_, h2, ?_, fun b o hb => ?_, ?_⟩
  · rw [List.length_map, List.length_range]; omega
  · rw [upd_ne (ne_of_none hb hD)]; exact e2 _ _ (e _ _ hb)
  · rw [upd_same, List.range_succ, List.map_append]; rfl
theorem atI_snoc {α : Type} (xs : List α) (y : α) : atI (xs ++ [y]) (-1) = some y := by
  unfold atI
  have hn : (xs ++ [y]).length = xs.length + 1 := by rw [List.length_append]; rfl
  have hi : ixN (xs ++ [y]).length (-1) = some xs.length := by
    unfold ixN
    rw [if_neg (by decide), if_pos (by omega), hn]
    congr 1
    omega
  rw [hi]
  simp
end
theorem atI_m1 {α : Type} {xs : List α} (h : xs ≠ []) : atI xs (-1) = xs[xs.length - 1]? := by
  have hl : 0 < xs.length := by cases xs with | nil => exact absurd rfl h | cons _ _ => simp
  unfold atI
  have hi : ixN xs.length (-1) = some (xs.length - 1) := by
    unfold ixN
    rw [if_neg (by decide), if_pos (by omega)]
    congr 1
    omega
  rw [hi]; rfl
theorem shPairs {l : List PyData} (h : ∀ d ∈ l, ∃ a b, d = .tuple [.str a, .str b] ∧ PyData.strOk a = true ∧ PyData.strOk b = true) : SeqAt.shaped (.list l) = true := by
  have h1 : PyData.canLayAll0 l = true := canAll fun d hd => by
    obtain ⟨a, b, rfl, ha, hb⟩ := h d hd
    exact SeqAt.canLay_of_shaped (sh2 ha hb)
  have h2 : PyData.depthAll l ≤ 1 := depAll fun d hd => by
    obtain ⟨a, b, rfl, ha, hb⟩ := h d hd
    exact Nat.le_refl 1
  unfold SeqAt.shaped PyData.canLay0 PyData.depth
  rw [h1]
  simp only [Bool.true_and]
  exact decide_eq_true (by omega)
def CkGive (C : Addr) (H : Hp) (ns : List Int) (Q : VK) : Prop := ∀ q H', Ex H H' → Ck C H' q ns → Q (.ref q) H'
def spNeedTotal (K : PySem.W.Frag) (CT : Addr) : Sp := fun vs H Q E => ∃ x, vs = [x] ∧ ((∃ i, x = .int i ∧ 0 ≤ i ∧ i ≤ 10 ^ 30 ∧ Q .non H) ∨ (OutS K H x 0 (10 ^ 30) ∧ Rz CT "value" x H E))
def spUpDiv : Sp := fun vs H Q _ => ∃ a b, vs = [.int a, .int b] ∧ 0 < b ∧ b ≤ 10 ^ 40 ∧ Q (.int ((a + b - 1) / b)) H
def rzMany (CM : Addr) (H : Hp) (E : XK) : Prop := Rz2 CM "what" "most" (.str "chunks") (.int 5000) H E
def spEvenC (K : PySem.W.Frag) (C CB CT CM : Addr) : Sp := fun vs H Q E => ∃ x y, vs = [x, y] ∧ ((OutS K H x 0 (10 ^ 30) ∧ Rz CT "value" x H E) ∨ ∃ t, x = .int t ∧ 0 ≤ t ∧ t ≤ 10 ^ 30 ∧
  ((OutS K H y 1 (10 ^ 30) ∧ Rz CB "value" y H E) ∨ ∃ s, y = .int s ∧ siz s ∧ ((5000 < (t + s - 1) / s ∧ rzMany CM H E) ∨ ((t + s - 1) / s ≤ 5000 ∧ CkGive C H (evenL t s) Q))))
def spShared (K : PySem.W.Frag) (C CB CT CM : Addr) : Sp := fun vs H Q E => ∃ x y, vs = [x, y] ∧ ((OutS K H x 0 (10 ^ 30) ∧ Rz CT "value" x H E) ∨ ∃ t, x = .int t ∧ 0 ≤ t ∧ t ≤ 10 ^ 30 ∧
  ((OutS K H y (min t 1) t ∧ Rz CB "value" y H E) ∨ ∃ m, y = .int m ∧ min t 1 ≤ m ∧ m ≤ t ∧ ((5000 < m ∧ rzMany CM H E) ∨ (m ≤ 5000 ∧ CkGive C H (sharedL t m) Q))))
def spTaper (K : PySem.W.Frag) (C CB CT CM : Addr) : Sp := fun vs H Q E => ∃ x y z, vs = [x, y, z] ∧ ((OutS K H x 0 (10 ^ 30) ∧ Rz CT "value" x H E) ∨ ∃ t, x = .int t ∧ 0 ≤ t ∧ t ≤ 10 ^ 30 ∧
  ((OutS K H y 1 (10 ^ 30) ∧ Rz CB "value" y H E) ∨ ∃ f, y = .int f ∧ siz f ∧ ((OutS K H z 1 f ∧ Rz CB "value" z H E) ∨ ∃ l, z = .int l ∧ 1 ≤ l ∧ l ≤ f ∧
    ((0 < tapR t f (tapS t f l) 5000 ∧ rzMany CM H E) ∨ ∃ n, n ≤ 5000 ∧ tapR t f (tapS t f l) n = 0 ∧ CkGive C H (tapL t f (tapS t f l) n) Q))))
end L3
end
section
local macro_rules | `(tactic| tm_at "s1") => `(tactic| first
  | with_reducible first
    | refine L3.s_seq ?_ | refine L3.s_asg ?_ | refine L3.s_op ?_ | refine L3.s_c ?_ | refine L3.s_cb ?_ | refine L3.s_cons ?_ | refine L3.s_nil ?_ | refine L3.s_test ?_ | refine L3.s_bl ?_
    | refine L3.s_I0 ?_ | refine L3.s_and ?_ | refine L3.s_or ?_ | refine L3.s_not ?_ | refine L3.s_if ?_ | refine L3.s_next ?_ | refine L3.s_ret ?_ | refine L3.s_retN ?_ | refine L3.s_asgS ?_ | refine L3.s_drop ?_
    | refine L3.s_un ?_ | refine L3.s_U ?_ | refine L3.s_int ?_ | refine L3.s_intB ?_ | refine L3.s_abs ?_ | refine L3.s_andV ?_ | refine L3.s_orV ?_ | refine L3.s_notV ?_ | refine L3.s_ifE ?_ | refine L3.s_call ?_ | refine L3.s_lst ?_ | refine L3.s_tup ?_ | refine L3.s_tB ?_
    | refine L3.s_addI ?_ | refine L3.s_inS ?_ | refine L3.s_ninS ?_ | refine L3.s_slice ?_ | refine L3.s_part ?_ | refine L3.s_partI ?_ | refine L3.s_nopart ?_ | refine L3.s_cI ?_ | refine L3.s_cB ?_ | refine L3.s_chain ?_ | refine L3.s_bm ?_ | refine L3.s_lcS ?_ | refine L3.s_lcR ?_ | refine L3.s_strE ?_
    | refine L2.iteT ?_ | refine L2.iteF ?_ | refine L3.iteNF ?_ | refine L3.iteNT ?_
    | refine L3.s_eqI ?_ | refine L3.s_neI ?_ | refine L3.s_eqS ?_ | refine L3.s_neS ?_
    | refine L3.s_pair ?_ | refine L3.s_pair2 ?_ | refine L3.s_fld ?_ | refine L3.s_make ?_ | refine L3.s_m1 ?_ | refine L3.s_isstr ?_
    | refine L3.s_xfV ?_ | refine L3.s_lstN ?_ | refine L3.s_callF ?_ | refine L3.s_lcL ?_ | refine L3.s_par3 ?_ | refine L3.s_trip ?_ | refine L3.s_asgT' ?_ | refine L3.s_gC ?_ | refine L3.s_gN ?_ | refine L3.s_fldG ?_ | refine L3.s_raise1 ?_ | refine L3.s_raise2 ?_ | refine L3.s_star ?_ | refine L3.s_mkCR ?_ | refine L3.s_lcZ ?_ | refine L3.s_forL ?_ | refine L3.s_forT ?_ | refine L3.s_gNm ?_ | refine L3.s_forE ?_ | refine L3.s_stC ?_ | refine L3.s_cmC ?_ | refine L3.s_forR1 ?_ | refine L3.s_lcTp ?_ | refine L3.s_forZ ?_ | refine L3.s_orT ?_ | refine L3.s_mt ?_ | refine L3.s_revT ?_ | refine L3.s_revL ?_
    | refine L3.s_isN ?_ | refine L3.s_isB ?_ | refine L3.s_nisN ?_ | refine L3.s_nisB ?_
  | ((with_reducible refine' L3.s_var ?e ?_); (case e => rfl))
  | ((with_reducible refine' L3.s_aug ?e ?_); (case e => rfl))
  | ((with_reducible refine' L3.s_pow ?c ?_); (case c => exact ⟨by decide, by decide, by decide⟩)))
local macro_rules | `(tactic| tm_at "s") => `(tactic| repeat tm_at "s1")
namespace K13
open PySem PySem.NumText PySem.Spec PyProof.Rows L2 L3 LamX RZ ClX
abbrev s_need_total : Stmt := topS 22
theorem sc_need_total : FnScope ["value"] ["value"] (defScope s_need_total) := ⟨rfl, rfl, rfl, by decide +kernel, rfl, by decide +kernel, by decide +kernel⟩
abbrev s_rounded_up : Stmt := topS 27
theorem sc_rounded_up : FnScope ["number", "by"] ["number", "by"] (defScope s_rounded_up) := ⟨rfl, rfl, rfl, by decide +kernel, rfl, by decide +kernel, by decide +kernel⟩
abbrev s_Chunks_even : Stmt := inClass (topS 28) 3
theorem sc_Chunks_even : FnScope ["total", "size", "sizes", "rest"] ["total", "size"] (defScope s_Chunks_even) := ⟨rfl, rfl, rfl, by decide +kernel, rfl, by decide +kernel, by decide +kernel⟩
abbrev s_Chunks_shared : Stmt := inClass (topS 28) 4
abbrev names_Chunks_shared : List Str := ["total", "many", "size", "greater", "sizes", "at"]
theorem sc_Chunks_shared : FnScope ["total", "many", "size", "greater", "sizes", "at"] ["total", "many"] (defScope s_Chunks_shared) := ⟨rfl, rfl, rfl, by decide +kernel, rfl, by decide +kernel, by decide +kernel⟩
abbrev s_Chunks_tapered : Stmt := inClass (topS 28) 5
theorem sc_Chunks_tapered : FnScope ["total", "first", "last", "many", "step", "sizes", "left", "size"] ["total", "first", "last"] (defScope s_Chunks_tapered) := ⟨rfl, rfl, rfl, by decide +kernel, rfl, by decide +kernel, by decide +kernel⟩
abbrev s_Chunks___len__ : Stmt := inClass (topS 28) 11
theorem sc_Chunks___len__ : FnScope ["self"] ["self"] (defScope s_Chunks___len__) := ⟨rfl, rfl, rfl, by decide +kernel, rfl, by decide +kernel, by decide +kernel⟩
section
variable {P : Program} {w : World} {K : PySem.W.Frag} {mg : Str → Option Value} {base : Heap} {C CB CC CM CL CT CN CW : Addr}
def spLenC (C : Addr) : Sp := fun vs H Q _ => ∃ p ns, vs = [.ref p] ∧ Ck C H p ns ∧ Q (.int ((ns : List Int).length : Int)) H
theorem ok_len {f : Addr} {fd : FuncData} (F : Fun K "__len__" "Chunks.__len__" s_Chunks___len__ f fd) (T : Txt K mg C CB CC CM CL CT CN CW) : FnOk P w K mg base (L2.CX P w) 1 f fd ["self"] (spLenC C) := by
  refine funO F sc_Chunks___len__ (fun vs H Q E h => ?_) (fun cd A fr s H vs Q E hr h => ?_)
  · obtain ⟨p, ns, rfl, _⟩ := h; rfl
  · obtain ⟨p, ns, rfl, hc, k⟩ := h
    refine ⟨_, (pss_one (ps_ret (pe_callB (KX.callLen (K := K)) (by rfl) T.b_len (by decide +kernel) (pa_cons (KX.fld (K := K) rfl (pv 0) rfl) pa_nil)))), ?_⟩
    tm_at "s"
    obtain ⟨d1, u1, _, _, i1, h1, _⟩ := id hc
    refine ⟨p, C, d1, _, _, rfl, i1, T.c.cl, T.nS, rfl, ?_⟩
    tm_at "s"
    refine s_lenT h1 ?_
    rw [List.length_map]
    exact k
theorem ok_need_total {f : Addr} {fd : FuncData} (F : Fun K "need_total" "need_total" s_need_total f fd) (T : Txt K mg C CB CC CM CL CT CN CW) (c_is_within : FnO P w K mg base CX0 2 "is_within" ["value", "least", "most"] (spWithin2 K)) (e_BadTotal : Er1 P w K mg base "BadTotal" CT "value") : FnOk P w K mg base (L2.CX P w) 3 f fd ["value"] (spNeedTotal K CT) := by
  refine funO F sc_need_total (fun vs H Q E h => ?_) (fun cd A fr s H vs Q E hr h => ?_)
  · obtain ⟨x, rfl, _⟩ := h; rfl
  · obtain ⟨x, rfl, hc⟩ := h
    refine ⟨_, (pss_one (ps_if (pt_not (pt_val (pe_o c_is_within hr pass0 (pa_cons (pv 0) (pa_cons pe_int (pa_cons (C8.pe_gc (by rfl) T.g_MOST_ITEMS) pa_nil)))))) (pss_one (ps_raise1 e_BadTotal hr rfl (takes_of rfl rfl rfl rfl) (pa_cons (pv 0) pa_nil))) pss_nil)), ?_⟩
    tm_at "s"
    rcases hc with ⟨i, rfl, h0, h1, k⟩ | ⟨ho, rz⟩
    · refine ⟨_, _, _, rfl, .inl ⟨i, rfl, h0, h1, ?_⟩⟩
      tm_at "s"
      exact k
    · refine ⟨_, _, _, rfl, .inr ⟨ho, ?_⟩⟩
      tm_at "s"
      exact s_rz rz
theorem ok_rounded_up {f : Addr} {fd : FuncData} (F : Fun K "rounded_up" "rounded_up" s_rounded_up f fd) (T : Txt K mg C CB CC CM CL CT CN CW) : FnOk P w K mg base CX0 1 f fd ["number", "by"] spUpDiv := by
  refine funO F sc_rounded_up (fun vs H Q E h => ?_) (fun cd A fr s H vs Q E hr h => ?_)
  · obtain ⟨a, b, rfl, _⟩ := h; rfl
  · obtain ⟨a, b, rfl, h0, h1, k⟩ := h
    refine ⟨_, (pss_one (ps_ret (pe_op op_fdivW (pe_op op_sub (pe_op opAdd (pv 0) (pv 1)) pe_int) (pv 1)))), ?_⟩
    tm_at "s"
    exact s_divP h0 h1 k
theorem ok_even {f : Addr} {fd : FuncData} (F : Fun K "even" "Chunks.even" s_Chunks_even f fd) (T : Txt K mg C CB CC CM CL CT CN CW) (m_Chunks : McR P w K mg base (L2.CX P w) 5 "Chunks" C (spCk K C CB CM)) (c_need_total : FnO P w K mg base (L2.CX P w) 3 "need_total" ["value"] (spNeedTotal K CT)) (c_need_size : FnO P w K mg base (L2.CX P w) 4 "need_size" ["value"] (spNeedSize K CB)) (c_need_few : FnO P w K mg base (L2.CX P w) 3 "need_few" ["many"] (spNeedFew CM)) (c_rounded_up : FnO P w K mg base CX0 1 "rounded_up" ["number", "by"] spUpDiv) :
    FnOk P w K mg base (L2.CX P w) 7 f fd ["total", "size"] (spEvenC K C CB CT CM) := by
  refine funO F sc_Chunks_even (fun vs H Q E h => ?_) (fun cd A fr s H vs Q E hr h => ?_)
  · obtain ⟨x, y, rfl, _⟩ := h; rfl
  · obtain ⟨x, y, rfl, hc⟩ := h
    refine ⟨_, (pss_cons (ps_expr (pe_o c_need_total hr (passT (takes_of rfl rfl rfl rfl) (fun _ _ _ _ h => h)) (pa_cons (pv 0) pa_nil)))
      (pss_cons (ps_expr (pe_o c_need_size hr (passT (takes_of rfl rfl rfl rfl) (fun _ _ _ _ h => h)) (pa_cons (pv 1) pa_nil)))
      (pss_cons (ps_expr (pe_o c_need_few hr (passT (takes_of rfl rfl rfl rfl) (fun _ _ _ _ h => h)) (pa_cons (pe_o c_rounded_up hr pass0 (pa_cons (pv 0) (pa_cons (pv 1) pa_nil))) pa_nil)))
      (pss_cons (ps_set (i := 2) sc_Chunks_even.nd rfl (Or.inl rfl) (pe_op opMul (pe_lst (pa_cons (pv 1) pa_nil)) (pe_op op_fdivW (pv 0) (pv 1))))
      (pss_cons (ps_set (i := 3) sc_Chunks_even.nd rfl (Or.inl rfl) (pe_op op_sub (pv 0) (pe_op opMul (pe_callB (KX.callLen (K := K)) (by rfl) T.b_len (by decide +kernel) (pa_cons (pv 2) pa_nil)) (pv 1))))
      (pss_cons (ps_if (pt_cmpR op_gt (pv 3) pe_int (nomark _)) (pss_one (ps_expr (pe_bm PySem.F.plainAttrs_list PySem.F.slot_list_append PySem.F.type_list_append mt_append (pv 2) (pa_cons (pv 3) pa_nil)))) pss_nil)
      (pss_one (ps_ret (pe_mkRS m_Chunks hr (passT (takes_of rfl rfl rfl rfl) (fun _ _ _ _ h => h)) (pv 2)))))))))), ?_⟩
    tm_at "s"
    rcases hc with ⟨ho, rz⟩ | ⟨t, rfl, t0, t1, hc⟩
    · exact ⟨_, rfl, .inr ⟨ho, rz⟩⟩
    refine ⟨_, rfl, .inl ⟨t, rfl, t0, t1, ?_⟩⟩
    tm_at "s"
    rcases hc with ⟨ho, rz⟩ | ⟨s1, rfl, hs, hc⟩
    · exact ⟨_, rfl, .inr ⟨ho, rz⟩⟩
    refine ⟨_, rfl, .inl ⟨s1, rfl, hs, ?_⟩⟩
    have hs' := hs
    unfold siz at hs'
    tm_at "s"
    refine ⟨t, s1, rfl, by omega, by omega, ?_⟩
    tm_at "s"
    rcases hc with ⟨hgt, rz⟩ | ⟨hle, kq⟩
    · exact ⟨_, rfl, .inr ⟨hgt, rz⟩⟩
    refine ⟨_, rfl, .inl ⟨hle, ?_⟩⟩
    tm_at "s"
    refine s_new (Nat.le_of_lt (small1000 (by simp))) fun l1 H1 n1 e1 h1 => ?_
    tm_at "s"
    refine s_divP (by omega) (by omega) ?_
    have hlen := evenL_len (t := t) (s := s1) t0 (by omega)
    have hq : 0 ≤ t / s1 := Int.ediv_nonneg t0 (by omega)
    have hq2 : t / s1 ≤ 5000 := by
      unfold evenL at hlen
      rw [List.length_append, List.length_replicate] at hlen
      omega
    refine s_repG h1 hq (by omega) (by rw [sizeLine_eq]; show 1 * (t / s1).toNat ≤ _; omega) fun l2 H2 n2 e2 h2 => ?_
    rw [rep_one] at h2
    try dsimp only
    tm_at "s"
    refine s_lenL h2 ?_
    rw [List.length_replicate, Int.toNat_of_nonneg hq]
    tm_at "s"
    refine s_mulB (by omega) (by omega) ?_
    tm_at "s"
    have fin : ∀ H3, Ex H H3 → H3 l2 = some (.lst ((evenL t s1).map V.int)) → spCk K C CB CM = spCk K C CB CM → ∀ (R : Prop), (CkG K CB CM H3 ((evenL t s1).map V.int) (fun ns => ∀ q H', H3 q = none → Ex H3 H' → Ck C H' q ns → Q (.ref q) H') E → R) → R := fun H3 e3 _ _ R r =>
      r (CkTo.g (.inl ⟨by omega, fun q H' e c => kq q H' (e3.trans e) c⟩) (by omega) (evenL_siz hs))
    have he : evenL t s1 = List.replicate (t / s1).toNat s1 ++ (if 0 < t - t / s1 * s1 then [t - t / s1 * s1] else []) := rfl
    refine iteD (fun hr => ?_) (fun hr => ?_)
    · rw [if_pos hr] at he
      tm_at "s"
      refine s_tyL h2 ?_
      tm_at "s"
      refine s_app h2 (sz_of (by rw [List.length_replicate]; omega)) ?_
      have e3 : Ex H (upd H2 l2 (.lst (List.replicate (t / s1).toNat (V.int s1) ++ [.int (t - t / s1 * s1)]))) := fun b o h => by
        rw [upd_ne (ne_of_none (e1 _ _ h) n2)]; exact e2 _ _ (e1 _ _ h)
      have h3 : (upd H2 l2 (.lst (List.replicate (t / s1).toNat (V.int s1) ++ [.int (t - t / s1 * s1)]))) l2 = some (.lst ((evenL t s1).map V.int)) := by
        rw [upd_same, he, List.map_append, List.map_replicate]; rfl
      generalize upd H2 l2 (.lst (List.replicate (t / s1).toNat (V.int s1) ++ [.int (t - t / s1 * s1)])) = H3 at e3 h3 ⊢
      try dsimp only
      tm_at "s"
      refine ⟨l2, _, rfl, .inr (.inl (.inl h3)), ?_⟩
      tm_at "s"
      rw [List.append_nil]
      exact fin H3 e3 h3 rfl _ fun g => s_mkCk g
    · rw [if_neg hr, List.append_nil] at he
      tm_at "s"
      have h3 : H2 l2 = some (.lst ((evenL t s1).map V.int)) := by rw [h2, he, List.map_replicate]
      refine ⟨l2, _, rfl, .inr (.inl (.inl h3)), ?_⟩
      tm_at "s"
      rw [List.append_nil]
      exact fin H2 (e1.trans e2) h3 rfl _ fun g => s_mkCk g
theorem ok_shared {f : Addr} {fd : FuncData} (F : Fun K "shared" "Chunks.shared" s_Chunks_shared f fd) (T : Txt K mg C CB CC CM CL CT CN CW) (m_Chunks : McR P w K mg base (L2.CX P w) 5 "Chunks" C (spCk K C CB CM)) (c_need_total : FnO P w K mg base (L2.CX P w) 3 "need_total" ["value"] (spNeedTotal K CT)) (c_is_within : FnO P w K mg base CX0 2 "is_within" ["value", "least", "most"] (spWithin2 K)) (c_need_few : FnO P w K mg base (L2.CX P w) 3 "need_few" ["many"] (spNeedFew CM)) (e_BadSize : Er1 P w K mg base "BadSize" CB "value") :
    FnOk P w K mg base (L2.CX P w) 7 f fd ["total", "many"] (spShared K C CB CT CM) := by
  refine funO F sc_Chunks_shared (fun vs H Q E h => ?_) (fun cd A fr s H vs Q E hr h => ?_)
  · obtain ⟨x, y, rfl, _⟩ := h; rfl
  · obtain ⟨x, y, rfl, hc⟩ := h
    refine ⟨_, (pss_cons (ps_expr (pe_o c_need_total hr (passT (takes_of rfl rfl rfl rfl) (fun _ _ _ _ h => h)) (pa_cons (pv 0) pa_nil)))
      (pss_cons (ps_if (pt_not (pt_val (pe_o c_is_within hr pass0 (pa_cons (pv 1) (pa_cons (pe_callB (call_min2 (by rfl)) (by rfl) T.b_min (by decide +kernel) (pa_cons (pe_callTy (KX.callInt (K := K)) (by rfl) T.b_int (by decide +kernel) (pa_cons (pv 0) pa_nil)) (pa_cons pe_int pa_nil))) (pa_cons (pv 0) pa_nil)))))) (pss_one (ps_raise1 e_BadSize hr rfl (takes_of rfl rfl rfl rfl) (pa_cons (pv 1) pa_nil))) pss_nil)
      (pss_cons (ps_expr (pe_o c_need_few hr (passT (takes_of rfl rfl rfl rfl) (fun _ _ _ _ h => h)) (pa_cons (pv 1) pa_nil)))
      (pss_cons (ps_set (i := 2) sc_Chunks_shared.nd rfl (Or.inr rfl) (pe_ifExp (pt_cmpR op_gt (pv 1) pe_int (nomark _)) (pe_op op_fdivW (pv 0) (pv 1)) pe_int))
      (pss_cons (ps_set (i := 3) sc_Chunks_shared.nd rfl (Or.inr rfl) (pe_op op_sub (pv 0) (pe_op opMul (pv 2) (pv 1))))
      (pss_cons (ps_setLc (i := 4) (own := [("at", 5)]) (g := gName 5) (tt := tYes) (by rfl) sc_Chunks_shared.nd rfl rfl (sw_true rfl rfl rfl (by decide +kernel)) (pi_range1 (by rfl) T.b_range (pa_cons (pv 1) pa_nil)) (blkOk_by (own := [("at", 5)]) (N := names_Chunks_shared) (sc := defScope s_Chunks_shared) (by decide +kernel)) (fun _ _ _ _ _ => pg_name (i := 5) sc_Chunks_shared.nd rfl (Or.inl rfl)) (fun _ _ _ _ _ => pts_nil) (fun _ _ _ _ _ => (pe_ifExp (pt_cmpR op_lt (pv 5) (pv 3) (nomark _)) (pe_op opAdd (pv 2) pe_int) (pv 2))))
      (pss_one (ps_ret (pe_mkRS m_Chunks hr (passT (takes_of rfl rfl rfl rfl) (fun _ _ _ _ h => h)) (pv 4)))))))))), ?_⟩
    tm_at "s"
    rcases hc with ⟨ho, rz⟩ | ⟨t, rfl, t0, t1, hc⟩
    · exact ⟨_, rfl, .inr ⟨ho, rz⟩⟩
    refine ⟨_, rfl, .inl ⟨t, rfl, t0, t1, ?_⟩⟩
    tm_at "s"
    refine ⟨_, _, rfl, ?_⟩
    tm_at "s"
    have em : (if 1 < t then 1 else t) = min t 1 := by split <;> omega
    rw [em]
    rcases hc with ⟨ho, rz⟩ | ⟨m, rfl, m0, m1, hc⟩
    · refine ⟨_, _, _, rfl, .inr ⟨ho, ?_⟩⟩
      tm_at "s"
      exact s_rz rz
    refine ⟨_, _, _, rfl, .inl ⟨m, rfl, m0, m1, ?_⟩⟩
    tm_at "s"
    rcases hc with ⟨hgt, rz⟩ | ⟨hle, kq⟩
    · exact ⟨_, rfl, .inr ⟨hgt, rz⟩⟩
    refine ⟨_, rfl, .inl ⟨hle, ?_⟩⟩
    tm_at "s"
    have hm : 0 ≤ m := by omega
    have hq : 0 ≤ shQ t m ∧ shQ t m ≤ 10 ^ 30 := by
      unfold shQ
      split
      · exact ⟨Int.ediv_nonneg t0 (by omega), Int.le_trans (Int.ediv_le_self _ t0) t1⟩
      · omega
    have key : ∀ R : VK, R (.int (shQ t m)) H → if decide ((0 : Int) < m) = true then tOp L3.rDivW (tVar 0) (tVar 1) [some (.int t), some (.int m), none, none, none, none] H R else tC (.int 0) [some (.int t), some (.int m), none, none, none, none] H R := by
      intro R r
      unfold shQ at r
      refine iteD (fun z => ?_) (fun z => ?_)
      · rw [if_pos z] at r
        tm_at "s"
        exact s_divP z (by omega) r
      · rw [if_neg z] at r
        exact r
    refine key _ ?_
    try dsimp only
    tm_at "s"
    refine s_mulB (by omega) (by omega) ?_
    tm_at "s"
    refine ⟨by omega, by omega, lcR2 (fun i => .int (if ((i : Nat) : Int) < t - shQ t m * m then shQ t m + 1 else shQ t m)) (Nat.lt_of_le_of_lt (show m.toNat ≤ 100000 by omega) (by decide)) (fun _ => rfl) (fun i H1 R hi e1 r => ?_) fun D H1 nD e1 hD => ?_⟩
    · tm_at "s"
      refine iteD (fun z => ?_) (fun z => ?_)
      · rw [if_pos (by omega)] at r
        tm_at "s"
        exact r _ (Ex.refl _)
      · rw [if_neg (by omega)] at r
        tm_at "s"
        exact r _ (Ex.refl _)
    · tm_at "s"
      have h3 : H1 D = some (.lst ((sharedL t m).map V.int)) := by rw [hD]; unfold sharedL; rw [List.map_map]; rfl
      refine ⟨D, _, rfl, .inr (.inl (.inl h3)), ?_⟩
      tm_at "s"
      rw [List.append_nil]
      exact s_mkCk (CkTo.g (.inl ⟨by rw [sharedL_len]; omega, fun q H' e c => kq q H' (e1.trans e) c⟩) (by rw [sharedL_len]; omega) (sharedL_siz t0 t1 m0 m1))
def TapW (t f l : Int) (ls : Addr) (H1 : Hp) (mm : Nat) (σ : L2.St) (H' : Hp) : Prop := ∃ i : Nat, i ≤ 5000 ∧ mm = 5000 - i ∧ (∀ j, j < i → 0 < tapR t f (tapS t f l) j) ∧ σ = [some (.int t), some (.int f), some (.int l), some (.int (tapM t f l)), some (.int (tapS t f l)), some (.ref ls), some (.int (tapR t f (tapS t f l) i)), some (.int (f - (i : Int) * tapS t f l))] ∧
  H' ls = some (.lst ((tapL t f (tapS t f l) i).map V.int)) ∧ ∀ b o, b ≠ ls → H1 b = some o → H' b = some o
theorem ok_tapered {f : Addr} {fd : FuncData} (F : Fun K "tapered" "Chunks.tapered" s_Chunks_tapered f fd) (T : Txt K mg C CB CC CM CL CT CN CW) (m_Chunks : McR P w K mg base (L2.CX P w) 5 "Chunks" C (spCk K C CB CM)) (c_need_total : FnO P w K mg base (L2.CX P w) 3 "need_total" ["value"] (spNeedTotal K CT)) (c_need_size : FnO P w K mg base (L2.CX P w) 4 "need_size" ["value"] (spNeedSize K CB)) (c_is_within : FnO P w K mg base CX0 2 "is_within" ["value", "least", "most"] (spWithin2 K)) (c_need_few : FnO P w K mg base (L2.CX P w) 3 "need_few" ["many"] (spNeedFew CM)) (c_rounded_up : FnO P w K mg base CX0 1 "rounded_up" ["number", "by"] spUpDiv) (e_BadSize : Er1 P w K mg base "BadSize" CB "value") :
    FnOk P w K mg base (L2.CX P w) 7 f fd ["total", "first", "last"] (spTaper K C CB CT CM) := by
  refine funO F sc_Chunks_tapered (fun vs H Q E h => ?_) (fun cd A fr s H vs Q E hr h => ?_)
  · obtain ⟨x, y, z, rfl, _⟩ := h; rfl
  · obtain ⟨x, y, z, rfl, hc⟩ := h
    refine ⟨_, (pss_cons (ps_expr (pe_o c_need_total hr (passT (takes_of rfl rfl rfl rfl) (fun _ _ _ _ h => h)) (pa_cons (pv 0) pa_nil)))
      (pss_cons (ps_expr (pe_o c_need_size hr (passT (takes_of rfl rfl rfl rfl) (fun _ _ _ _ h => h)) (pa_cons (pv 1) pa_nil)))
      (pss_cons (ps_if (pt_not (pt_val (pe_o c_is_within hr pass0 (pa_cons (pv 2) (pa_cons pe_int (pa_cons (pv 1) pa_nil)))))) (pss_one (ps_raise1 e_BadSize hr rfl (takes_of rfl rfl rfl rfl) (pa_cons (pv 2) pa_nil))) pss_nil)
      (pss_cons (ps_set (i := 3) sc_Chunks_tapered.nd rfl (Or.inl rfl) (pe_o c_rounded_up hr pass0 (pa_cons (pe_op opMul pe_int (pv 0)) (pa_cons (pe_op opAdd (pv 1) (pv 2)) pa_nil))))
      (pss_cons (ps_set (i := 4) sc_Chunks_tapered.nd rfl (Or.inl rfl) (pe_ifExp (pt_cmpR op_gt (pv 3) pe_int (nomark _)) (pe_op op_fdivW (pe_op op_sub (pv 1) (pv 2)) (pe_op op_sub (pv 3) pe_int)) pe_int))
      (pss_cons (ps_par3 (by rfl) sc_Chunks_tapered.nd (i := 5) (j := 6) (l := 7) rfl rfl rfl (by decide) (by decide) (by decide) rfl rfl rfl (pa_cons (pe_lst pa_nil) (pa_cons (pv 0) (pa_cons (pv 1) pa_nil))) (by rfl))
      (pss_cons (ps_while (passes_of rfl) (pt_cmpR op_gt (pv 6) pe_int (nomark _)) (pss_cons (ps_expr (pe_o c_need_few hr (passT (takes_of rfl rfl rfl rfl) (fun _ _ _ _ h => h)) (pa_cons (pe_op opAdd (pe_callB (KX.callLen (K := K)) (by rfl) T.b_len (by decide +kernel) (pa_cons (pv 5) pa_nil)) pe_int) pa_nil)))
      (pss_cons (ps_expr (pe_bm PySem.F.plainAttrs_list PySem.F.slot_list_append PySem.F.type_list_append mt_append (pv 5) (pa_cons (pe_callB (call_min2 (by rfl)) (by rfl) T.b_min (by decide +kernel) (pa_cons (pe_callTy (KX.callInt (K := K)) (by rfl) T.b_int (by decide +kernel) (pa_cons (pv 7) pa_nil)) (pa_cons (pe_callTy (KX.callInt (K := K)) (by rfl) T.b_int (by decide +kernel) (pa_cons (pv 6) pa_nil)) pa_nil))) pa_nil)))
      (pss_cons (ps_set (i := 6) sc_Chunks_tapered.nd rfl (Or.inl rfl) (pe_op op_sub (pv 6) (pe_ix (KX.ixU (K := K)) (pv 5) (pe_un un_neg pe_int) (fun _ _ => rfl))))
      (pss_one (ps_set (i := 7) sc_Chunks_tapered.nd rfl (Or.inl rfl) (pe_op op_sub (pv 7) (pv 4))))))))
      (pss_one (ps_ret (pe_mkRS m_Chunks hr (passT (takes_of rfl rfl rfl rfl) (fun _ _ _ _ h => h)) (pv 5))))))))))), ?_⟩
    tm_at "s"
    rcases hc with ⟨ho, rz⟩ | ⟨t, rfl, t0, t1, hc⟩
    · exact ⟨_, rfl, .inr ⟨ho, rz⟩⟩
    refine ⟨_, rfl, .inl ⟨t, rfl, t0, t1, ?_⟩⟩
    tm_at "s"
    rcases hc with ⟨ho, rz⟩ | ⟨f1, rfl, hf, hc⟩
    · exact ⟨_, rfl, .inr ⟨ho, rz⟩⟩
    refine ⟨_, rfl, .inl ⟨f1, rfl, hf, ?_⟩⟩
    have hf' := hf
    unfold siz at hf'
    tm_at "s"
    rcases hc with ⟨ho, rz⟩ | ⟨l, rfl, l0, l1, hc⟩
    · refine ⟨_, _, _, rfl, .inr ⟨ho, ?_⟩⟩
      tm_at "s"
      exact s_rz rz
    refine ⟨_, _, _, rfl, .inl ⟨l, rfl, l0, l1, ?_⟩⟩
    tm_at "s"
    refine s_mulB (by omega) (by omega) ?_
    tm_at "s"
    refine ⟨2 * t, f1 + l, rfl, by omega, by omega, ?_⟩
    tm_at "s"
    have hM := tapM_le t0 l0 l1
    have hM2 : tapM t f1 l ≤ 10 ^ 40 := Int.le_trans (Int.ediv_le_self _ (by omega)) (by omega)
    have key : ∀ R : VK, R (.int (tapS t f1 l)) H → if decide ((1 : Int) < tapM t f1 l) = true then tOp rDivW (tOp L3.rSub (tVar 1) (tVar 2)) (tOp L3.rSub (tVar 3) (tC (.int 1))) [some (.int t), some (.int f1), some (.int l), some (.int (tapM t f1 l)), none, none, none, none] H R else tC (.int 0) [some (.int t), some (.int f1), some (.int l), some (.int (tapM t f1 l)), none, none, none, none] H R := by
      intro R r
      unfold tapS at r
      refine iteD (fun z => ?_) (fun z => ?_)
      · rw [if_pos z] at r
        tm_at "s"
        exact s_divP (by omega) (by omega) r
      · rw [if_neg z] at r
        exact r
    refine key _ ?_
    try dsimp only
    tm_at "s"
    refine s_new (Nat.le_of_lt (small1000 (by simp))) fun ls H1 n1 e1 h1 => ?_
    try dsimp only
    tm_at "s"
    refine ⟨TapW t f1 l ls H1, ⟨5000, 0, by omega, rfl, fun j hj => absurd hj (Nat.not_lt_zero _), by rw [show f1 - ((0 : Nat) : Int) * tapS t f1 l = f1 by simp]; rfl, h1, fun _ _ _ h => h⟩, ?_⟩
    rintro mm _ H2 ⟨i, hi, rfl, hp, rfl, h2, k2⟩
    have e2 : Ex H H2 := fun b o h => k2 b o (ne_of_none h n1) (e1 _ _ h)
    tm_at "s"
    refine iteD (fun hz => ?_) (fun hz => ?_)
    · refine ⟨fun σ' H' => ∃ m', m' < 5000 - i ∧ TapW t f1 l ls H1 m' σ' H', fun σ' H' h => h, ?_⟩
      have hsz := tap_size t0 l0 l1 (i := (i : Int)) (by omega) (tapR_pos t0 l0 l1 hz)
      tm_at "s"
      refine s_lenL h2 ?_
      rw [List.length_map, tap_len i hp]
      tm_at "s"
      rcases Nat.lt_or_ge i 5000 with hi5 | hi5
      · refine ⟨_, rfl, .inl ⟨by omega, ?_⟩⟩
        tm_at "s"
        refine s_tyL h2 ?_
        tm_at "s"
        refine ⟨_, _, rfl, ?_⟩
        tm_at "s"
        refine s_app h2 (sz_of (by rw [List.length_map, tap_len i hp]; omega)) ?_
        have em : (if tapR t f1 (tapS t f1 l) i < f1 - (i : Int) * tapS t f1 l then tapR t f1 (tapS t f1 l) i else f1 - (i : Int) * tapS t f1 l) = min (f1 - (i : Int) * tapS t f1 l) (tapR t f1 (tapS t f1 l) i) := by split <;> omega
        rw [em]
        have hl3 : tapL t f1 (tapS t f1 l) (i + 1) = tapL t f1 (tapS t f1 l) i ++ [min (f1 - (i : Int) * tapS t f1 l) (tapR t f1 (tapS t f1 l) i)] := by rw [tapL_s, if_pos hz]
        have hr3 : tapR t f1 (tapS t f1 l) (i + 1) = tapR t f1 (tapS t f1 l) i - min (f1 - (i : Int) * tapS t f1 l) (tapR t f1 (tapS t f1 l) i) := by rw [tapR_s, if_pos hz]; omega
        try dsimp only
        tm_at "s"
        refine s_iL (v := .int (min (f1 - (i : Int) * tapS t f1 l) (tapR t f1 (tapS t f1 l) i))) upd_same (atI_snoc _ _) ?_
        try dsimp only
        tm_at "s"
        refine ⟨5000 - (i + 1), by omega, i + 1, by omega, rfl, fun j hj => ?_, ?_, ?_, fun b o hb h => by rw [upd_ne hb]; exact k2 b o hb h⟩
        · rcases Nat.lt_or_eq_of_le (Nat.le_of_lt_succ hj) with h | h
          · exact hp j h
          · rw [h]; exact hz
        · rw [hr3, show f1 - ((i + 1 : Nat) : Int) * tapS t f1 l = f1 - (i : Int) * tapS t f1 l - tapS t f1 l by rw [show ((i + 1 : Nat) : Int) = (i : Int) + 1 by omega, Int.add_mul]; omega]
          rfl
        · rw [upd_same, hl3, List.map_append]; rfl
      · have hi5' : i = 5000 := by omega
        subst hi5'
        refine ⟨_, rfl, .inr ⟨by decide, ?_⟩⟩
        rcases hc with ⟨_, rz⟩ | ⟨n, hn, hn0, _⟩
        · exact Rz2.ex rz e2
        · obtain ⟨kk, hk⟩ := Nat.exists_eq_add_of_le hn
          rw [hk, (tapR_stay hn0 kk).1] at hz
          exact absurd hz (by decide)
    · have h0 : tapR t f1 (tapS t f1 l) i = 0 := by have := tapR_nn (f := f1) (s := tapS t f1 l) t0 i; omega
      tm_at "s"
      refine ⟨ls, _, rfl, .inr (.inl (.inl h2)), ?_⟩
      tm_at "s"
      rw [List.append_nil]
      refine s_mkCk (CkTo.g (.inl ⟨by have := tap_le (t := t) (f := f1) (s := tapS t f1 l) i; omega, fun q H' e c => ?_⟩) (by have := tap_le (t := t) (f := f1) (s := tapS t f1 l) i; omega) (tapL_siz t0 l0 l1 hf'.2 i))
      rcases hc with ⟨hpos, _⟩ | ⟨n, hn, hn0, kq⟩
      · obtain ⟨kk, hk⟩ := Nat.exists_eq_add_of_le hi
        rw [hk, (tapR_stay h0 kk).1] at hpos
        exact absurd hpos (by decide)
      · rw [tap_same h0 hn0] at c
        exact kq q H' (e2.trans e) c
end
end K13
end
section
local macro_rules | `(tactic| tm_at "s1") => `(tactic| first
  | with_reducible first
    | refine L3.s_seq ?_ | refine L3.s_asg ?_ | refine L3.s_op ?_ | refine L3.s_c ?_ | refine L3.s_cb ?_ | refine L3.s_cons ?_ | refine L3.s_nil ?_ | refine L3.s_test ?_ | refine L3.s_bl ?_
    | refine L3.s_I0 ?_ | refine L3.s_and ?_ | refine L3.s_or ?_ | refine L3.s_not ?_ | refine L3.s_if ?_ | refine L3.s_next ?_ | refine L3.s_ret ?_ | refine L3.s_retN ?_ | refine L3.s_asgS ?_ | refine L3.s_drop ?_
    | refine L3.s_un ?_ | refine L3.s_U ?_ | refine L3.s_int ?_ | refine L3.s_intB ?_ | refine L3.s_abs ?_ | refine L3.s_andV ?_ | refine L3.s_orV ?_ | refine L3.s_notV ?_ | refine L3.s_ifE ?_ | refine L3.s_call ?_ | refine L3.s_lst ?_ | refine L3.s_tup ?_ | refine L3.s_tB ?_
    | refine L3.s_addI ?_ | refine L3.s_inS ?_ | refine L3.s_ninS ?_ | refine L3.s_slice ?_ | refine L3.s_part ?_ | refine L3.s_partI ?_ | refine L3.s_nopart ?_ | refine L3.s_cI ?_ | refine L3.s_cB ?_ | refine L3.s_chain ?_ | refine L3.s_bm ?_ | refine L3.s_lcS ?_ | refine L3.s_lcR ?_ | refine L3.s_strE ?_
    | refine L2.iteT ?_ | refine L2.iteF ?_ | refine L3.iteNF ?_ | refine L3.iteNT ?_
    | refine L3.s_eqI ?_ | refine L3.s_neI ?_ | refine L3.s_eqS ?_ | refine L3.s_neS ?_
    | refine L3.s_pair ?_ | refine L3.s_pair2 ?_ | refine L3.s_fld ?_ | refine L3.s_make ?_ | refine L3.s_m1 ?_ | refine L3.s_isstr ?_
    | refine L3.s_xfV ?_ | refine L3.s_lstN ?_ | refine L3.s_callF ?_ | refine L3.s_lcL ?_ | refine L3.s_par3 ?_ | refine L3.s_trip ?_ | refine L3.s_asgT' ?_ | refine L3.s_gC ?_ | refine L3.s_gN ?_ | refine L3.s_fldG ?_ | refine L3.s_raise1 ?_ | refine L3.s_raise2 ?_ | refine L3.s_star ?_ | refine L3.s_mkCR ?_ | refine L3.s_lcZ ?_ | refine L3.s_forL ?_ | refine L3.s_forT ?_ | refine L3.s_gNm ?_ | refine L3.s_forE ?_ | refine L3.s_stC ?_ | refine L3.s_cmC ?_ | refine L3.s_forR1 ?_ | refine L3.s_lcTp ?_ | refine L3.s_forZ ?_ | refine L3.s_orT ?_ | refine L3.s_mt ?_ | refine L3.s_revT ?_ | refine L3.s_revL ?_
    | refine L3.s_isN ?_ | refine L3.s_isB ?_ | refine L3.s_nisN ?_ | refine L3.s_nisB ?_
  | ((with_reducible refine' L3.s_var ?e ?_); (case e => rfl))
  | ((with_reducible refine' L3.s_aug ?e ?_); (case e => rfl))
  | ((with_reducible refine' L3.s_pow ?c ?_); (case c => exact ⟨by decide, by decide, by decide⟩)))
local macro_rules | `(tactic| tm_at "s") => `(tactic| repeat tm_at "s1")
namespace K13
open PySem PySem.NumText PySem.Spec PyProof.Rows L2 L3 LamX RZ ClX
abbrev s__law_even : Stmt := topS 35
theorem sc__law_even : FnScope ["_law_total", "_law_size"] ["_law_total", "_law_size"] (defScope s__law_even) := ⟨rfl, rfl, rfl, by decide +kernel, rfl, by decide +kernel, by decide +kernel⟩
abbrev s__law_tapered : Stmt := topS 36
theorem sc__law_tapered : FnScope ["_law_total", "_law_first", "_law_last", "_law_many", "_law_step", "_law_found", "_law_left", "_law_spot", "_law_size"] ["_law_total", "_law_first", "_law_last"] (defScope s__law_tapered) := ⟨rfl, rfl, rfl, by decide +kernel, rfl, by decide +kernel, by decide +kernel⟩
section
variable {P : Program} {w : World} {K : PySem.W.Frag} {mg : Str → Option Value} {base : Heap} {C CB CC CM CL CT CN CW : Addr}
def spLEven : Sp := fun vs H Q _ => ∃ t s, vs = [.int t, .int s] ∧ 0 ≤ t ∧ t ≤ 100000 ∧ 0 < s ∧ s ≤ 100000 ∧ ∀ q H', Ex H H' → H' q = some (.lst ((evenL t s).map V.int)) → Q (.ref q) H'
theorem ok_leven {f : Addr} {fd : FuncData} (F : Fun K "_law_even" "_law_even" s__law_even f fd) (T : Txt K mg C CB CC CM CL CT CN CW) : FnG P w K mg base CX0 1 f fd ["_law_total", "_law_size"] spLEven := by
  refine funG F sc__law_even (fun vs H Q E h => ?_) (fun cd A fr s H vs Q E hr hg h => ?_)
  · obtain ⟨t, s, rfl, _⟩ := h; rfl
  · obtain ⟨t, s1, rfl, t0, t1, s0, s2, kq⟩ := h
    refine ⟨_, (pss_one (ps_ret (pe_op opAdd (pe_op opMul (pe_lst (pa_cons (pv 1) pa_nil)) (pe_op op_fdivW (pv 0) (pv 1))) (pe_ifExp (pt_cmpR op_gt (pv 0) (pe_op opMul (pv 1) (pe_op op_fdivW (pv 0) (pv 1))) (nomark _)) (pe_lst (pa_cons (pe_op op_sub (pv 0) (pe_op opMul (pv 1) (pe_op op_fdivW (pv 0) (pv 1)))) pa_nil)) (pe_lst pa_nil))))), ?_⟩
    have hq : 0 ≤ t / s1 := Int.ediv_nonneg t0 (by omega)
    have hq2 : t / s1 ≤ 100000 := Int.le_trans (Int.ediv_le_self _ t0) t1
    have he : evenL t s1 = List.replicate (t / s1).toNat s1 ++ (if 0 < t - t / s1 * s1 then [t - t / s1 * s1] else []) := rfl
    have hc : s1 * (t / s1) = t / s1 * s1 := Int.mul_comm _ _
    tm_at "s"
    refine s_new (Nat.le_of_lt (small1000 (by simp))) fun l1 H1 n1 e1 h1 => ?_
    tm_at "s"
    refine s_divP (by omega) (by omega) ?_
    refine s_repG h1 hq (by omega) (by rw [sizeLine_eq]; show 1 * (t / s1).toNat ≤ _; omega) fun l2 H2 n2 e2 h2 => ?_
    rw [rep_one] at h2
    tm_at "s"
    refine s_divP (by omega) (by omega) ?_
    refine s_mulB (by omega) (by omega) ?_
    tm_at "s"
    refine iteD (fun hr => ?_) (fun hr => ?_)
    · rw [if_pos (by omega)] at he
      tm_at "s"
      refine s_divP (by omega) (by omega) ?_
      refine s_mulB (by omega) (by omega) ?_
      tm_at "s"
      refine s_new (Nat.le_of_lt (small1000 (by simp))) fun l3 H3 n3 e3 h3 => ?_
      refine s_addL (e3 _ _ h2) h3 (by rw [List.length_replicate, sizeLine_eq]; show (t / s1).toNat + 1 ≤ _; omega) fun l4 H4 n4 e4 h4 => ?_
      refine kq l4 H4 (e1.trans (e2.trans (e3.trans e4))) ?_
      rw [h4, he, List.map_append, List.map_replicate, hc]; rfl
    · rw [if_neg (by omega)] at he
      tm_at "s"
      refine s_new (Nat.le_of_lt (small1000 (by simp))) fun l3 H3 n3 e3 h3 => ?_
      refine s_addL (e3 _ _ h2) h3 (by rw [List.length_replicate, sizeLine_eq]; show (t / s1).toNat + 0 ≤ _; omega) fun l4 H4 n4 e4 h4 => ?_
      refine kq l4 H4 (e1.trans (e2.trans (e3.trans e4))) ?_
      rw [h4, he, List.map_append, List.map_replicate]; rfl
def spLTap : Sp := fun vs H Q _ => ∃ t f l, vs = [.int t, .int f, .int l] ∧ 0 ≤ t ∧ t ≤ 1000 ∧ 1 ≤ l ∧ l ≤ f ∧ f ≤ 1000 ∧ ∀ q H', Ex H H' → H' q = some (.lst ((tapL t f (tapS t f l) (tapM t f l).toNat).map V.int)) → Q (.ref q) H'
theorem ok_ltap {f : Addr} {fd : FuncData} (F : Fun K "_law_tapered" "_law_tapered" s__law_tapered f fd) (T : Txt K mg C CB CC CM CL CT CN CW) : FnG P w K mg base CX0 1 f fd ["_law_total", "_law_first", "_law_last"] spLTap := by
  refine funG F sc__law_tapered (fun vs H Q E h => ?_) (fun cd A fr s H vs Q E hr hg h => ?_)
  · obtain ⟨t, f, l, rfl, _⟩ := h; rfl
  · obtain ⟨t, f1, l, rfl, t0, t1, l0, l1, f2, kq⟩ := h
    refine ⟨_, (pss_cons (ps_set (i := 3) sc__law_tapered.nd rfl (Or.inl rfl) pe_int)
      (pss_cons (ps_while (passes_of rfl) (pt_cmpR op_lt (pe_op opMul (pv 3) (pe_op opAdd (pv 1) (pv 2))) (pe_op opMul pe_int (pv 0)) (nomark _)) (pss_one (ps_set (i := 3) sc__law_tapered.nd rfl (Or.inl rfl) (pe_op opAdd (pv 3) pe_int))))
      (pss_cons (ps_par3 (by rfl) sc__law_tapered.nd (i := 4) (j := 5) (l := 6) rfl rfl rfl (by decide) (by decide) (by decide) rfl rfl rfl (pa_cons (pe_ifExp (pt_cmpR op_gt (pv 3) pe_int (nomark _)) (pe_op op_fdivW (pe_op op_sub (pv 1) (pv 2)) (pe_op op_sub (pv 3) pe_int)) pe_int) (pa_cons (pe_lst pa_nil) (pa_cons (pv 0) pa_nil))) (by rfl))
      (pss_cons (ps_for (passes_of rfl) rfl (pi_range1 (by rfl) T.b_range (pa_cons (pv 3) pa_nil)) (pg_name (i := 7) sc__law_tapered.nd rfl (Or.inl rfl)) (pss_cons (ps_set (i := 8) sc__law_tapered.nd rfl (Or.inl rfl) (pe_callB (call_min2 (by rfl)) (by rfl) T.b_min (by decide +kernel) (pa_cons (pe_callTy (KX.callInt (K := K)) (by rfl) T.b_int (by decide +kernel) (pa_cons (pv 6) pa_nil)) (pa_cons (pe_callTy (KX.callInt (K := K)) (by rfl) T.b_int (by decide +kernel) (pa_cons (pe_op op_sub (pv 1) (pe_op opMul (pv 7) (pv 4))) pa_nil)) pa_nil))))
      (pss_cons (ps_set (i := 5) sc__law_tapered.nd rfl (Or.inl rfl) (pe_op opAdd (pv 5) (pe_ifExp (pt_cmpR op_gt (pv 8) pe_int (nomark _)) (pe_lst (pa_cons (pv 8) pa_nil)) (pe_lst pa_nil))))
      (pss_one (ps_set (i := 6) sc__law_tapered.nd rfl (Or.inl rfl) (pe_op op_sub (pv 6) (pv 8)))))))
      (pss_one (ps_ret (pe_ifExp (pt_cmpR (KX.eqU (K := K) rfl hr.units) (pv 6) pe_int (nomark _)) (pv 5) pe_non))))))), ?_⟩
    have hM := tapM_le t0 l0 l1
    have hM2 : tapM t f1 l ≤ 100000 := by
      refine (ceil_iff (by omega)).mpr ?_
      have := Int.mul_le_mul_of_nonneg_left (show (2 : Int) ≤ f1 + l by omega) (show (0 : Int) ≤ 100000 by decide)
      omega
    tm_at "s"
    refine ⟨fun mm σ H' => ∃ m : Int, 0 ≤ m ∧ (m - 1) * (f1 + l) < 2 * t + (if m = 0 then 1 else 0) ∧ mm = (2 * t - m * (f1 + l)).toNat ∧ m ≤ 100000 ∧ σ = [some (.int t), some (.int f1), some (.int l), some (.int m), none, none, none, none, none] ∧ H' = H, ⟨_, 0, Int.le_refl _, by rw [if_pos rfl]; omega, rfl, by decide, rfl, rfl⟩, ?_⟩
    rintro mm _ H1 ⟨m, hm0, hm1, rfl, hm2, rfl, rfl⟩
    tm_at "s"
    refine s_mulB (by omega) (by omega) ?_
    tm_at "s"
    refine s_mulB (by omega) (by omega) ?_
    tm_at "s"
    refine iteD (fun hz => ?_) (fun hz => ?_)
    · refine ⟨fun σ' H' => σ' = [some (.int t), some (.int f1), some (.int l), some (.int (m + 1)), none, none, none, none, none] ∧ H' = H1, ?_, ?_⟩
      · rintro _ _ ⟨rfl, rfl⟩
        refine ⟨_, ?_, m + 1, by omega, ?_, rfl, ?_, rfl, rfl⟩
        · rw [Int.add_mul]; omega
        · rw [if_neg (by omega), Int.add_sub_cancel]; omega
        · have : m < tapM t f1 l := Int.lt_of_not_ge fun z => by have := (ceil_iff (a := 2 * t) (b := f1 + l) (by omega)).mp z; omega
          omega
      · tm_at "s"
        exact ⟨rfl, rfl⟩
    · have hm : m = tapM t f1 l := by
        by_cases z : m = 0
        · subst z
          have : tapM t f1 l ≤ 0 := (ceil_iff (by omega)).mpr (by omega)
          omega
        · rw [if_neg z] at hm1
          exact (ceil_uniq (by omega) (by omega) (by omega)).symm
      subst hm
      tm_at "s"
      have key : ∀ R : VK, R (.int (tapS t f1 l)) H1 → if decide ((1 : Int) < tapM t f1 l) = true then tOp L3.rDivW (tOp L3.rSub (tVar 1) (tVar 2)) (tOp L3.rSub (tVar 3) (tC (.int 1))) [some (.int t), some (.int f1), some (.int l), some (.int (tapM t f1 l)), none, none, none, none, none] H1 R else tC (.int 0) [some (.int t), some (.int f1), some (.int l), some (.int (tapM t f1 l)), none, none, none, none, none] H1 R := by
        intro R r
        unfold tapS at r
        refine iteD (fun z => ?_) (fun z => ?_)
        · rw [if_pos z] at r
          tm_at "s"
          exact s_divP (by omega) (by omega) r
        · rw [if_neg z] at r
          exact r
      refine key _ ?_
      tm_at "s"
      refine s_new (Nat.le_of_lt (small1000 (by simp))) fun lf H2 n1 e1 h1 => ?_
      try dsimp only
      tm_at "s"
      refine ⟨by omega, by omega, ?_⟩
      refine forRg (n := (tapM t f1 l).toNat) (fun i σ H' => ∃ q v7 v8, σ = [some (.int t), some (.int f1), some (.int l), some (.int (tapM t f1 l)), some (.int (tapS t f1 l)), some (.ref q), some (.int (tapR t f1 (tapS t f1 l) i)), v7, v8] ∧ H' q = some (.lst ((tapL t f1 (tapS t f1 l) i).map V.int)) ∧ Ex H1 H') ⟨lf, _, _, rfl, h1, e1⟩ ?_ ?_
      · rintro i _ H3 hi ⟨q, v7, v8, rfl, h3, e3⟩
        refine s_gNm ?_
        try dsimp only
        tm_at "s"
        have hsz := tap_size t0 l0 l1 (i := (i : Int)) (by omega) (by omega)
        have hS := tapS_nn t0 l0 l1
        have hS2 : tapS t f1 l ≤ 1000 := by
          unfold tapS
          split
          · exact Int.le_trans (Int.ediv_le_self _ (by omega)) (by omega)
          · decide
        rw [Int.zero_add]
        refine s_mulB (by omega) (by omega) ?_
        tm_at "s"
        refine ⟨_, _, rfl, ?_⟩
        tm_at "s"
        have hnn := tapR_nn (f := f1) (s := tapS t f1 l) t0 i
        have em : (if f1 - (i : Int) * tapS t f1 l < tapR t f1 (tapS t f1 l) i then f1 - (i : Int) * tapS t f1 l else tapR t f1 (tapS t f1 l) i) = min (f1 - (i : Int) * tapS t f1 l) (tapR t f1 (tapS t f1 l) i) := by split <;> omega
        rw [em]
        have hr3 : tapR t f1 (tapS t f1 l) (i + 1) = tapR t f1 (tapS t f1 l) i - min (f1 - (i : Int) * tapS t f1 l) (tapR t f1 (tapS t f1 l) i) := by rw [tapR_s]; split <;> omega
        have hle := tap_le (t := t) (f := f1) (s := tapS t f1 l) i
        refine iteD (fun hz => ?_) (fun hz => ?_)
        · have hl3 : tapL t f1 (tapS t f1 l) (i + 1) = tapL t f1 (tapS t f1 l) i ++ [min (f1 - (i : Int) * tapS t f1 l) (tapR t f1 (tapS t f1 l) i)] := by rw [tapL_s, if_pos (by omega)]
          tm_at "s"
          refine s_new (Nat.le_of_lt (small1000 (by simp))) fun l4 H4 n4 e4 h4 => ?_
          refine s_addL (e4 _ _ h3) h4 (by rw [List.length_map, sizeLine_eq]; show _ + 1 ≤ _; omega) fun l5 H5 n5 e5 h5 => ?_
          try dsimp only
          tm_at "s"
          exact ⟨l5, _, _, by rw [hr3]; rfl, by rw [h5, hl3, List.map_append]; rfl, e3.trans (e4.trans e5)⟩
        · have hl3 : tapL t f1 (tapS t f1 l) (i + 1) = tapL t f1 (tapS t f1 l) i := by rw [tapL_s, if_neg (by omega), List.append_nil]
          tm_at "s"
          refine s_new (Nat.le_of_lt (small1000 (by simp))) fun l4 H4 n4 e4 h4 => ?_
          refine s_addL (e4 _ _ h3) h4 (by rw [List.length_map, sizeLine_eq]; show _ + 0 ≤ _; omega) fun l5 H5 n5 e5 h5 => ?_
          try dsimp only
          tm_at "s"
          exact ⟨l5, _, _, by rw [hr3]; rfl, by rw [h5, hl3, List.append_nil], e3.trans (e4.trans e5)⟩
      · rintro _ H3 ⟨q, v7, v8, rfl, h3, e3⟩
        have h0 := tapR_end t0 l0 l1
        rw [h0]
        try dsimp only
        tm_at "s"
        refine iteD (fun _ => ?_) (fun z => absurd rfl z)
        tm_at "s"
        exact kq q H3 e3 h3
end
end K13
end
section
local macro_rules | `(tactic| tm_at "s1") => `(tactic| first
  | with_reducible first
    | refine L3.s_seq ?_ | refine L3.s_asg ?_ | refine L3.s_op ?_ | refine L3.s_c ?_ | refine L3.s_cb ?_ | refine L3.s_cons ?_ | refine L3.s_nil ?_ | refine L3.s_test ?_ | refine L3.s_bl ?_
    | refine L3.s_I0 ?_ | refine L3.s_and ?_ | refine L3.s_or ?_ | refine L3.s_not ?_ | refine L3.s_if ?_ | refine L3.s_next ?_ | refine L3.s_ret ?_ | refine L3.s_retN ?_ | refine L3.s_asgS ?_ | refine L3.s_drop ?_
    | refine L3.s_un ?_ | refine L3.s_U ?_ | refine L3.s_int ?_ | refine L3.s_intB ?_ | refine L3.s_abs ?_ | refine L3.s_andV ?_ | refine L3.s_orV ?_ | refine L3.s_notV ?_ | refine L3.s_ifE ?_ | refine L3.s_call ?_ | refine L3.s_lst ?_ | refine L3.s_tup ?_ | refine L3.s_tB ?_
    | refine L3.s_addI ?_ | refine L3.s_inS ?_ | refine L3.s_ninS ?_ | refine L3.s_slice ?_ | refine L3.s_part ?_ | refine L3.s_partI ?_ | refine L3.s_nopart ?_ | refine L3.s_cI ?_ | refine L3.s_cB ?_ | refine L3.s_chain ?_ | refine L3.s_bm ?_ | refine L3.s_lcS ?_ | refine L3.s_lcR ?_ | refine L3.s_strE ?_
    | refine L2.iteT ?_ | refine L2.iteF ?_ | refine L3.iteNF ?_ | refine L3.iteNT ?_
    | refine L3.s_eqI ?_ | refine L3.s_neI ?_ | refine L3.s_eqS ?_ | refine L3.s_neS ?_
    | refine L3.s_pair ?_ | refine L3.s_pair2 ?_ | refine L3.s_fld ?_ | refine L3.s_make ?_ | refine L3.s_m1 ?_ | refine L3.s_isstr ?_
    | refine L3.s_xfV ?_ | refine L3.s_lstN ?_ | refine L3.s_callF ?_ | refine L3.s_lcL ?_ | refine L3.s_par3 ?_ | refine L3.s_trip ?_ | refine L3.s_asgT' ?_ | refine L3.s_gC ?_ | refine L3.s_gN ?_ | refine L3.s_fldG ?_ | refine L3.s_raise1 ?_ | refine L3.s_raise2 ?_ | refine L3.s_star ?_ | refine L3.s_mkCR ?_ | refine L3.s_lcZ ?_ | refine L3.s_forL ?_ | refine L3.s_forT ?_ | refine L3.s_gNm ?_ | refine L3.s_forE ?_ | refine L3.s_stC ?_ | refine L3.s_cmC ?_ | refine L3.s_forR1 ?_ | refine L3.s_lcTp ?_ | refine L3.s_forZ ?_ | refine L3.s_orT ?_ | refine L3.s_mt ?_ | refine L3.s_revT ?_ | refine L3.s_revL ?_
    | refine L3.s_isN ?_ | refine L3.s_isB ?_ | refine L3.s_nisN ?_ | refine L3.s_nisB ?_
  | ((with_reducible refine' L3.s_var ?e ?_); (case e => rfl))
  | ((with_reducible refine' L3.s_aug ?e ?_); (case e => rfl))
  | ((with_reducible refine' L3.s_pow ?c ?_); (case c => exact ⟨by decide, by decide, by decide⟩)))
local macro_rules | `(tactic| tm_at "s") => `(tactic| repeat tm_at "s1")
namespace K13
open PySem PySem.NumText PySem.Spec PyProof.Rows L2 L3 LamX RZ ClX
abbrev s__law_even_right : Stmt := topS 37
abbrev names__law_even_right : List Str := ["_law_pen_here", "_law_total", "_law_size", "_law_many", "_law_made", "_law_one"]
theorem sc__law_even_right : FnScope ["_law_pen_here", "_law_total", "_law_size", "_law_many", "_law_made", "_law_one"] ["_law_pen_here"] (defScope s__law_even_right) := ⟨rfl, rfl, rfl, by decide +kernel, rfl, by decide +kernel, by decide +kernel⟩
abbrev lamQ1 : Str := (("_law_even_right" : Str) ++ ".<locals>.") ++ "<lambda>"
section
variable {P : Program} {w : World} {K : PySem.W.Frag} {mg : Str → Option Value} {base : Heap} {C CB CC CM CL CT CN CW : Addr}
def spEvR (Tt : List (Addr × Str)) : Sp := fun vs H Q _ => ∃ p n, vs = [.ref p] ∧ Wo Tt H p n ∧ n + 100 < lim ∧ ∀ H' m, m ≤ n + 10 → Wo Tt H' p m → Q (.bl true) H'
theorem ok_evenR {f c Pt : Addr} {fd : FuncData} (F : FunC K "_law_even_right" "_law_even_right" s__law_even_right c f fd) (TB : TabB base mg c Pt) {Tt : List (Addr × Str)} (hmT : (Pt, lamQ1) ∈ Tt) (huT : ∀ p ∈ Tt, p.1 = Pt → p.2 = lamQ1) (T : Txt K mg C CB CC CM CL CT CN CW) (F5 : Kit5 K CB CC CM CT CN) (FH : HeF K mg)
    (c__law_draw : Fn P w K mg base CX0 1 "_law_draw" ["_law_pen_here", "_law_many"] spDraw) (c__law_pick : Fn P w K mg base CX0 2 "_law_pick" ["_law_pen_here", "_law_some"] spPick) (c__law_even : Fn P w K mg base CX0 1 "_law_even" ["_law_total", "_law_size"] spLEven)
    (st_even : StM P w K mg base (L2.CX P w) 7 C "even" ["total", "size"] (spEvenC K C CB CT CM)) (str_even : StR P w K mg base (L2.CX P w) 7 C "even" ["total", "size"] (spEvenC K C CB CT CM))
    (st_shared : StM P w K mg base (L2.CX P w) 7 C "shared" ["total", "many"] (spShared K C CB CT CM)) (str_shared : StR P w K mg base (L2.CX P w) 7 C "shared" ["total", "many"] (spShared K C CB CT CM))
    (m_Chunks : McR P w K mg base (L2.CX P w) 5 "Chunks" C (spCk K C CB CM)) (me_eq : Me P w K mg base C "__eq__" 1 ["self", "other"] (spCkEq K C)) (me_len : Me P w K mg base C "__len__" 1 ["self"] (spLenC C)) :
    FnG P w K mg base CX0 12 f fd ["_law_pen_here"] (spEvR Tt) := by
  refine funGC F sc__law_even_right (fun vs H Q E h => ?_) (fun A fr s H vs Q E hr hg h => ?_)
  · obtain ⟨p, n, rfl, _⟩ := h; rfl
  · obtain ⟨p, n, rfl, W, hlim, kq⟩ := h
    refine ⟨_, (pss_cons (ps_set (i := 1) sc__law_even_right.nd rfl (Or.inr rfl) (pe_f c__law_pick hr hg pass0 (pa_cons (pv 0) (pa_cons (pe_lst (pa_cons pe_int (pa_cons pe_int (pa_cons pe_int (pa_cons pe_int (pa_cons pe_int (pa_cons pe_int (pa_cons pe_int (pa_cons (pe_f c__law_draw hr hg pass0 (pa_cons (pv 0) (pa_cons pe_int pa_nil))) pa_nil))))))))) pa_nil))))
      (pss_cons (ps_set (i := 2) sc__law_even_right.nd rfl (Or.inl rfl) (pe_op opAdd pe_int (pe_f c__law_draw hr hg pass0 (pa_cons (pv 0) (pa_cons pe_int pa_nil)))))
      (pss_cons (ps_if (PW.pt (pw_or (pt_cmpR (KX.neU (K := K) rfl hr.units) (pe_callTy (KX.callList (K := K) rfl rfl) (by rfl) T.b_list (by decide +kernel) (pa_cons (KX.fld (K := K) rfl (pe_st st_even hr passF (C8.pe_gc (by rfl) T.g_Chunks) (pa_cons (pv 1) (pa_cons (pv 2) pa_nil))) rfl) pa_nil)) (pe_f c__law_even hr hg pass0 (pa_cons (pv 1) (pa_cons (pv 2) pa_nil))) (nomark _)) (pw_or1 (pt_cmpR (KX.neU (K := K) rfl hr.units) (KX.fld (K := K) rfl (pe_stR str_even hr passF (C8.pe_gc (by rfl) T.g_Chunks) (pk_cons (pv 2) (pk_cons (pv 1) pk_nil))) rfl) (pv 1) (nomark _))))) (pss_one (ps_ret pe_bl)) pss_nil)
      (pss_cons (ps_if (pt_cmpR (KX.eqU (K := K) rfl hr.units) (pv 1) pe_int (nomark _)) (pss_one (ps_ret (pe_and (pe_cmpR (cmpOwn (fun _ _ => rfl) T.cmp rfl me_eq hr passF) (pe_st st_shared hr passF (C8.pe_gc (by rfl) T.g_Chunks) (pa_cons pe_int (pa_cons pe_int pa_nil))) (pe_mkR0 m_Chunks hr passF) (nomark _)) (pe_one (pe_cmpR (KX.eqU (K := K) rfl hr.units) (pe__law_heard FH T F5 TB hg hr hmT huT (lamS_by (sc := defScope s__law_even_right) (by decide +kernel)) (fun A outer s H E f c' hr' => (pe_st st_shared hr' (passT (takes_of rfl rfl rfl rfl) (fun _ _ _ _ h => h)) (C8.pe_gc (by rfl) T.g_Chunks) (pa_cons pe_int (pa_cons pe_int pa_nil))))) (pe_tup (pa_cons pe_str (pa_cons pe_str pa_nil))) (nomark _)))))) pss_nil)
      (pss_cons (ps_set (i := 3) sc__law_even_right.nd rfl (Or.inl rfl) (pe_op opAdd pe_int (pe_f c__law_draw hr hg pass0 (pa_cons (pv 0) (pa_cons (pv 1) pa_nil)))))
      (pss_cons (ps_set (i := 4) sc__law_even_right.nd rfl (Or.inl rfl) (pe_stR str_shared hr passF (C8.pe_gc (by rfl) T.g_Chunks) (pk_cons (pv 3) (pk_cons (pv 1) pk_nil))))
      (pss_cons (ps_if (PW.pt (pw_or (pt_cmpR (KX.neU (K := K) rfl hr.units) (pe_callB (callLenOwn me_len hr passF) (by rfl) T.b_len (by decide +kernel) (pa_cons (pv 4) pa_nil)) (pv 3) (nomark _)) (pw_or (pt_cmpR (KX.neU (K := K) rfl hr.units) (KX.fld (K := K) rfl (pv 4) rfl) (pv 1) (nomark _)) (pw_or1 (pt_cmpR (KX.neU (K := K) rfl hr.units) (pe_callTy (KX.callList (K := K) rfl rfl) (by rfl) T.b_list (by decide +kernel) (pa_cons (KX.fld (K := K) rfl (pv 4) rfl) pa_nil)) (KX.revL (K := K) rfl (pe_callB (KX.sortedI (K := K) rfl) (by rfl) T.b_sorted (by decide +kernel) (pa_cons (pe_lc (own := [("_law_one", 5)]) (g := gName 5) (tt := tYes) (by rfl) sc__law_even_right.nd (pi_tup (KX.fld (K := K) rfl (pv 4) rfl)) (blkOk_by (own := [("_law_one", 5)]) (N := names__law_even_right) (sc := defScope s__law_even_right) (by decide +kernel)) (fun _ _ _ _ _ => pg_name (i := 5) sc__law_even_right.nd rfl (Or.inl rfl)) (fun _ _ _ _ _ => pts_nil) (fun _ _ _ _ _ => (pe_callTy (KX.callInt (K := K)) (by rfl) T.b_int (by decide +kernel) (pa_cons (pv 5) pa_nil)))) pa_nil))) (nomark _)))))) (pss_one (ps_ret pe_bl)) pss_nil)
      (pss_one (ps_ret (pe_and (pe_cmpR op_lt (pe_op op_sub (pe_ix (KX.ixU (K := K)) (KX.fld (K := K) rfl (pv 4) rfl) pe_int (fun _ _ => rfl)) (pe_ix (KX.ixU (K := K)) (KX.fld (K := K) rfl (pv 4) rfl) (pe_un un_neg pe_int) (fun _ _ => rfl))) pe_int (nomark _)) (pe_one (pe_cmpR (KX.eqU (K := K) rfl hr.units) (pe__law_heard FH T F5 TB hg hr hmT huT (lamS_by (sc := defScope s__law_even_right) (by decide +kernel)) (fun A outer s H E f c' hr' => (pe_st st_shared hr' (passT (takes_of rfl rfl rfl rfl) (fun _ _ _ _ h => h)) (C8.pe_gc (by rfl) T.g_Chunks) (pa_cons (pv 1) (pa_cons (pe_op opAdd (pv 1) pe_int) pa_nil))))) (pe_tup (pa_cons pe_str (pa_cons (pe_callB (KX.callRepr (K := K) rfl hg hr.units) (by rfl) T.b_repr (by decide +kernel) (pa_cons (pe_op opAdd (pv 1) pe_int) pa_nil)) pa_nil))) (nomark _))))))))))))), ?_⟩
    tm_at "s"
    refine ⟨p, n, 400, rfl, by decide, by decide +kernel, W.pen, by omega, fun d1 H1 d0 d1' hp1 k1 => ?_⟩
    have W1 := W.keep hp1 k1
    tm_at "s"
    refine s_new (Nat.le_of_lt (small1000 (by simp))) fun l2 H2 n2 e2 h2 => ?_
    have W2 := W1.ex e2
    refine ⟨p, l2, n + 1, _, rfl, h2, by simp, by simp, W2.pen, by omega, fun v H3 hv hp3 k3 => ?_⟩
    have W3 := W2.keep hp3 k3
    obtain ⟨t, rfl, t0, t1⟩ : ∃ t : Int, v = .int t ∧ 0 ≤ t ∧ t ≤ 400 := by
      simp only [List.mem_cons, List.not_mem_nil, or_false] at hv
      rcases hv with rfl | rfl | rfl | rfl | rfl | rfl | rfl | rfl <;> exact ⟨_, rfl, by omega, by omega⟩
    try dsimp only
    tm_at "s"
    refine ⟨p, n + 1 + 1, 40, rfl, by decide, by decide +kernel, hp3, by omega, fun d4 H4 d40 d41 hp4 k4 => ?_⟩
    have W4 := W3.keep hp4 k4
    try dsimp only
    tm_at "s"
    have hs : siz (1 + d4) := by unfold siz; omega
    have hfew : (t + (1 + d4) - 1) / (1 + d4) ≤ 5000 := by
      refine (ceil_iff (by omega)).mpr ?_
      have := Int.mul_le_mul_of_nonneg_left (show (1 : Int) ≤ 1 + d4 by omega) (show (0 : Int) ≤ 5000 by decide)
      omega
    refine ⟨_, _, rfl, .inr ⟨t, rfl, t0, by omega, .inr ⟨1 + d4, rfl, hs, .inr ⟨hfew, fun q1 H5 e5 c5 => ?_⟩⟩⟩⟩
    tm_at "s"
    obtain ⟨dx, u1, _, _, i5, h5, _⟩ := id c5
    refine ⟨q1, C, dx, _, _, rfl, i5, T.c.cl, T.nS, rfl, ?_⟩
    tm_at "s"
    refine s_listT h5 fun l6 H6 n6 e6 h6 => ?_
    tm_at "s"
    refine ⟨t, 1 + d4, rfl, t0, by omega, by omega, by omega, fun l7 H7 e7 h7 => ?_⟩
    refine .inr (s_neD (.lst (.inl (.inl (e7 _ _ h6))) (dpInts _)) (.lst (.inl (.inl h7)) (dpInts _)) (shInts _) (shInts _) ?_)
    rw [SeqAt.eqv_refl _ (SeqAt.canLay_of_shaped (shInts _))]
    tm_at "s"
    refine s_stR ?_
    tm_at "s"
    refine ⟨_, _, rfl, .inr ⟨t, rfl, t0, by omega, .inr ⟨1 + d4, rfl, hs, .inr ⟨hfew, fun q2 H8 e8 c8 => ?_⟩⟩⟩⟩
    tm_at "s"
    obtain ⟨dx8, u8, _, _, i8, h8, _⟩ := id c8
    refine ⟨q2, C, dx8, _, _, rfl, i8, T.c.cl, T.nT, rfl, ?_⟩
    rw [evenL_sum t0 (by omega)]
    have W8 := W4.ex (e5.trans (e6.trans (e7.trans e8)))
    clear h8 h7 h6 h5 c5 c8 i5 i8 e5 e6 e7 e8 n6 k1 k3 k4 hp1 hp3 hp4 h2 n2 e2 W1 W2 W3 W4
    tm_at "s"
    refine iteND (fun z => absurd rfl z) (fun _ => ?_)
    tm_at "s"
    refine iteD (fun hz => ?_) (fun hz => ?_)
    · subst hz
      tm_at "s"
      refine ⟨_, _, rfl, .inr ⟨0, rfl, by decide, by decide, .inr ⟨0, rfl, by decide, by decide, .inr ⟨by decide, fun q3 H9 e9 c9 => ?_⟩⟩⟩⟩
      tm_at "s"
      refine s_mkCk ⟨by simp, .inl ⟨[], rfl, (fun n hn => nomatch hn), .inl ⟨by decide, fun q4 H10 _ e10 c10 => ?_⟩⟩⟩
      have c9' := c9.ex e10
      obtain ⟨da, _, _, _, ia, _⟩ := id c9'
      obtain ⟨db, _, _, _, ib, _⟩ := id c10
      refine ⟨q3, da, _, rfl, ia, .inl ⟨q4, db, _, rfl, ib⟩, q3, .ref q4, _, rfl, c9', .inl ⟨q4, _, rfl, c10, ?_⟩⟩
      rw [decide_eq_true (show sharedL 0 0 = [] from rfl)]
      have W10 := W8.ex (e9.trans e10)
      tm_at "s"
      refine s_hkSz (v := .int 1) (x := .int 1) W10.tabs (ShV.int (by decide)) (fun E1 Ha Q' ea ta rz => ?_) (fun r1 H11 e11 t11 g1 => ?_)
      · tm_at "s"
        exact ⟨_, _, rfl, .inr ⟨0, rfl, by decide, by decide, .inl ⟨.inr ⟨1, rfl, by decide⟩, rz⟩⟩⟩
      have W11 := W10.exN e11 t11
      tm_at "s"
      refine s_new (Nat.le_of_lt (small1000 (by simp))) fun l12 H12 n12 e12 h12 => ?_
      refine .inr (s_eqD (.tup (.inl (.inl (e12 _ _ g1))) (.cons (.str _) (.cons (.str _) .nil))) (.tup (.inl (.inl h12)) (.cons (.str _) (.cons (.str _) .nil))) (sh2 (by decide +kernel) (strOkI 1)) (sh2 (by decide +kernel) (by decide +kernel)) ?_)
      rw [show (PyData.int 1).shown = ("1" : Str) by decide +kernel, SeqAt.eqv_refl _ (SeqAt.canLay_of_shaped (sh2 (by decide +kernel) (by decide +kernel)))]
      exact kq H12 _ (by omega) (W11.ex e12)
    · have t0' : 0 < t := by omega
      tm_at "s"
      refine ⟨p, n + 1 + 1 + 1, t, rfl, t0', lt8000s (by omega) (by omega), W8.pen, by omega, fun d5 H9 d50 d51 hp9 k9 => ?_⟩
      have W9 := W8.keep hp9 k9
      try dsimp only
      tm_at "s"
      refine s_stR ?_
      tm_at "s"
      refine ⟨_, _, rfl, .inr ⟨t, rfl, t0, by omega, .inr ⟨1 + d5, rfl, by omega, by omega, .inr ⟨by omega, fun q3 H10 e10 c10 => ?_⟩⟩⟩⟩
      have W10 := W9.ex e10
      have hm : 0 < 1 + d5 := by omega
      obtain ⟨hm0, hg0, hg1⟩ := sh_facts (t := t) (m := 1 + d5) t0 (by omega) (by omega)
      obtain ⟨hg1, hg2⟩ := hg1 hm
      obtain ⟨hen0, hen1⟩ := sharedL_ends (t := t) hm hg1
      have hlen := sharedL_len t (1 + d5)
      have hsum := sharedL_sum (t := t) (m := 1 + d5) t0 (by omega) (by omega)
      have hdesc := sharedL_desc t (1 + d5)
      have hsz := sharedL_siz (t := t) (m := 1 + d5) t0 (by omega) (by omega) (by omega)
      generalize sharedL t (1 + d5) = ns at *
      try dsimp only
      tm_at "s"
      obtain ⟨dx, u1, _, _, i10, h10, _⟩ := id c10
      refine ⟨q3, dx, _, rfl, i10, q3, _, rfl, c10, _, rfl, by omega, by omega, ?_⟩
      rw [hlen, Int.toNat_of_nonneg hm0]
      tm_at "s"
      refine iteND (fun z => absurd rfl z) (fun _ => ?_)
      tm_at "s"
      refine ⟨q3, C, dx, _, _, rfl, i10, T.c.cl, T.nT, rfl, ?_⟩
      rw [hsum]
      tm_at "s"
      refine iteND (fun z => absurd rfl z) (fun _ => ?_)
      tm_at "s"
      refine ⟨q3, C, dx, _, _, rfl, i10, T.c.cl, T.nS, rfl, ?_⟩
      tm_at "s"
      refine s_listT h10 fun l11 H11 n11 e11 h11 => ?_
      tm_at "s"
      refine ⟨q3, C, dx, _, _, rfl, e11 _ _ i10, T.c.cl, T.nS, rfl, ?_⟩
      refine ⟨u1, rfl, ⟨_, .inl (.inl (e11 _ _ h10))⟩, lcTI (fun _ => true) (fun i => .int (ns.getD i 0)) (e11 _ _ h10) (by rw [List.length_map]; exact sz_of (by omega)) (fun _ => rfl) (fun i x H1 R hx e r => r) (fun i x H1 R hx _ e r => ?_) fun D H12 nD e12 hD => ?_⟩
      · obtain ⟨n', hn', rfl⟩ := get_int hx
        have e1' : ns.getD i 0 = n' := by rw [List.getD_eq_getElem?_getD, hn']; rfl
        rw [e1'] at r
        tm_at "s"
        exact r _ (Ex.refl _)
      rw [range_true, List.length_map, range_map ns 0 (fun n => V.int n)] at hD
      tm_at "s"
      refine s_sortI (.inl (.inl hD)) fun ns' l13 H13 hperm hasc n13 e13 h13 => ?_
      have hrev : ns'.reverse = ns := by
        have : ns' = ns.reverse := List.Perm.eq_of_pairwise (le := fun a b : Int => a ≤ b) (fun a b _ _ h1 h2 => Int.le_antisymm h1 h2) hasc (List.pairwise_reverse.mpr hdesc) (hperm.trans (List.reverse_perm ns).symm)
        rw [this, List.reverse_reverse]
      refine ⟨l13, _, rfl, .inl (.inl h13), fun l14 n14 => ?_⟩
      have e14 : Ex _ _ := ex_new (o := .lst (ns'.map V.int).reverse) n14
      have h14 : (upd H13 l14 (.lst (ns'.map V.int).reverse)) l14 = some (.lst (ns'.map V.int).reverse) := upd_same
      generalize upd H13 l14 (.lst (ns'.map V.int).reverse) = H14 at e14 h14 ⊢
      rw [← List.map_reverse, hrev] at h14
      have e1114 := e12.trans (e13.trans e14)
      refine .inr (s_neD (.lst (.inl (.inl (e1114 _ _ h11))) (dpInts _)) (.lst (.inl (.inl h14)) (dpInts _)) (shInts _) (shInts _) ?_)
      rw [SeqAt.eqv_refl _ (SeqAt.canLay_of_shaped (shInts _))]
      have E14 := e11.trans e1114
      have c14 := c10.ex E14
      have W14 := W10.ex E14
      clear h14 h13 h11 hD e1114 E14 e11 e12 e13 e14 n11 n13 n14 nD c10 i10 h10
      obtain ⟨dx, u1, _, _, i14, h14, _⟩ := id c14
      tm_at "s"
      refine ⟨q3, C, dx, _, _, rfl, i14, T.c.cl, T.nS, rfl, ?_⟩
      tm_at "s"
      refine s_iT h14 (L3.atI_nat (j := 0) (by rw [List.getElem?_map, hen0]; rfl)) ?_
      tm_at "s"
      refine ⟨q3, C, dx, _, _, rfl, i14, T.c.cl, T.nS, rfl, ?_⟩
      tm_at "s"
      refine s_iT (v := .int (shQ t (1 + d5))) h14 (by
        rw [atI_m1 (fun e => by have := congrArg List.length e; rw [List.length_map, hlen] at this; simp at this; omega), List.length_map, hlen, List.getElem?_map, hen1]; rfl) ?_
      tm_at "s"
      refine iteD (fun _ => ?_) (fun z => absurd (by split <;> omega) z)
      tm_at "s"
      refine s_hkSz (v := .int (t + 1)) (x := .int (t + 1)) W14.tabs (ShV.int (by omega)) (fun E1 Ha Q' ea ta rz => ?_) (fun r1 H15 e15 t15 g1 => ?_)
      · tm_at "s"
        exact ⟨_, _, rfl, .inr ⟨t, rfl, t0, by omega, .inl ⟨.inr ⟨t + 1, rfl, by omega⟩, rz⟩⟩⟩
      have W15 := W14.exN e15 t15
      tm_at "s"
      refine s_reprI (log_small (by omega)) ?_
      tm_at "s"
      refine s_new (Nat.le_of_lt (small1000 (by simp))) fun l16 H16 n16 e16 h16 => ?_
      refine .inr (s_eqD (.tup (.inl (.inl (e16 _ _ g1))) (.cons (.str _) (.cons (.str _) .nil))) (.tup (.inl (.inl h16)) (.cons (.str _) (.cons (.str _) .nil))) (sh2 (by decide +kernel) (strOkI _)) (sh2 (by decide +kernel) (strOkI _)) ?_)
      rw [SeqAt.eqv_refl _ (SeqAt.canLay_of_shaped (sh2 (by decide +kernel) (strOkI _)))]
      exact kq H16 _ (by omega) (W15.ex e16)
end
end K13
end
section
local macro_rules | `(tactic| tm_at "s1") => `(tactic| first
  | with_reducible first
    | refine L3.s_seq ?_ | refine L3.s_asg ?_ | refine L3.s_op ?_ | refine L3.s_c ?_ | refine L3.s_cb ?_ | refine L3.s_cons ?_ | refine L3.s_nil ?_ | refine L3.s_test ?_ | refine L3.s_bl ?_
    | refine L3.s_I0 ?_ | refine L3.s_and ?_ | refine L3.s_or ?_ | refine L3.s_not ?_ | refine L3.s_if ?_ | refine L3.s_next ?_ | refine L3.s_ret ?_ | refine L3.s_retN ?_ | refine L3.s_asgS ?_ | refine L3.s_drop ?_
    | refine L3.s_un ?_ | refine L3.s_U ?_ | refine L3.s_int ?_ | refine L3.s_intB ?_ | refine L3.s_abs ?_ | refine L3.s_andV ?_ | refine L3.s_orV ?_ | refine L3.s_notV ?_ | refine L3.s_ifE ?_ | refine L3.s_call ?_ | refine L3.s_lst ?_ | refine L3.s_tup ?_ | refine L3.s_tB ?_
    | refine L3.s_addI ?_ | refine L3.s_inS ?_ | refine L3.s_ninS ?_ | refine L3.s_slice ?_ | refine L3.s_part ?_ | refine L3.s_partI ?_ | refine L3.s_nopart ?_ | refine L3.s_cI ?_ | refine L3.s_cB ?_ | refine L3.s_chain ?_ | refine L3.s_bm ?_ | refine L3.s_lcS ?_ | refine L3.s_lcR ?_ | refine L3.s_strE ?_
    | refine L2.iteT ?_ | refine L2.iteF ?_ | refine L3.iteNF ?_ | refine L3.iteNT ?_
    | refine L3.s_eqI ?_ | refine L3.s_neI ?_ | refine L3.s_eqS ?_ | refine L3.s_neS ?_
    | refine L3.s_pair ?_ | refine L3.s_pair2 ?_ | refine L3.s_fld ?_ | refine L3.s_make ?_ | refine L3.s_m1 ?_ | refine L3.s_isstr ?_
    | refine L3.s_xfV ?_ | refine L3.s_lstN ?_ | refine L3.s_callF ?_ | refine L3.s_lcL ?_ | refine L3.s_par3 ?_ | refine L3.s_trip ?_ | refine L3.s_asgT' ?_ | refine L3.s_gC ?_ | refine L3.s_gN ?_ | refine L3.s_fldG ?_ | refine L3.s_raise1 ?_ | refine L3.s_raise2 ?_ | refine L3.s_star ?_ | refine L3.s_mkCR ?_ | refine L3.s_lcZ ?_ | refine L3.s_forL ?_ | refine L3.s_forT ?_ | refine L3.s_gNm ?_ | refine L3.s_forE ?_ | refine L3.s_stC ?_ | refine L3.s_cmC ?_ | refine L3.s_forR1 ?_ | refine L3.s_lcTp ?_ | refine L3.s_forZ ?_ | refine L3.s_orT ?_ | refine L3.s_mt ?_ | refine L3.s_revT ?_ | refine L3.s_revL ?_
    | refine L3.s_isN ?_ | refine L3.s_isB ?_ | refine L3.s_nisN ?_ | refine L3.s_nisB ?_
  | ((with_reducible refine' L3.s_var ?e ?_); (case e => rfl))
  | ((with_reducible refine' L3.s_aug ?e ?_); (case e => rfl))
  | ((with_reducible refine' L3.s_pow ?c ?_); (case c => exact ⟨by decide, by decide, by decide⟩)))
local macro_rules | `(tactic| tm_at "s") => `(tactic| repeat tm_at "s1")
namespace K13
open PySem PySem.NumText PySem.Spec PyProof.Rows L2 L3 LamX RZ ClX
abbrev s__law_tapered_right : Stmt := topS 38
theorem sc__law_tapered_right : FnScope ["_law_pen_here", "_law_total", "_law_last", "_law_first", "_law_made"] ["_law_pen_here"] (defScope s__law_tapered_right) := ⟨rfl, rfl, rfl, by decide +kernel, rfl, by decide +kernel, by decide +kernel⟩
section
variable {P : Program} {w : World} {K : PySem.W.Frag} {mg : Str → Option Value} {base : Heap} {C CB CC CM CL CT CN CW : Addr}
def spTapR : Sp := fun vs H Q _ => ∃ p n, vs = [.ref p] ∧ Pen H p n ∧ n + 100 < lim ∧ ∀ H' m, m ≤ n + 10 → (∀ b o, b ≠ p → H b = some o → H' b = some o) → Pen H' p m → Q (.bl true) H'
theorem ok_tapR {f : Addr} {fd : FuncData} (F : Fun K "_law_tapered_right" "_law_tapered_right" s__law_tapered_right f fd) (T : Txt K mg C CB CC CM CL CT CN CW)
    (c__law_draw : Fn P w K mg base CX0 1 "_law_draw" ["_law_pen_here", "_law_many"] spDraw) (c__law_pick : Fn P w K mg base CX0 2 "_law_pick" ["_law_pen_here", "_law_some"] spPick) (c__law_tapered : Fn P w K mg base CX0 1 "_law_tapered" ["_law_total", "_law_first", "_law_last"] spLTap)
    (st_tapered : StM P w K mg base (L2.CX P w) 7 C "tapered" ["total", "first", "last"] (spTaper K C CB CT CM)) (str_tapered : StR P w K mg base (L2.CX P w) 7 C "tapered" ["total", "first", "last"] (spTaper K C CB CT CM)) (me_eq : Me P w K mg base C "__eq__" 1 ["self", "other"] (spCkEq K C)) :
    FnG P w K mg base CX0 9 f fd ["_law_pen_here"] spTapR := by
  refine funG F sc__law_tapered_right (fun vs H Q E h => ?_) (fun cd A fr s H vs Q E hr hg h => ?_)
  · obtain ⟨p, n, rfl, _⟩ := h; rfl
  · obtain ⟨p, n, rfl, hp, hlim, kq⟩ := h
    refine ⟨_, (pss_cons (ps_par (by rfl) sc__law_tapered_right.nd (i := 1) (j := 2) rfl rfl (by decide) rfl rfl (pa_cons (pe_f c__law_pick hr hg pass0 (pa_cons (pv 0) (pa_cons (pe_lst (pa_cons pe_int (pa_cons pe_int (pa_cons pe_int (pa_cons pe_int (pa_cons pe_int (pa_cons pe_int (pa_cons (pe_f c__law_draw hr hg pass0 (pa_cons (pv 0) (pa_cons pe_int pa_nil))) pa_nil)))))))) pa_nil))) (pa_cons (pe_op opAdd pe_int (pe_f c__law_draw hr hg pass0 (pa_cons (pv 0) (pa_cons pe_int pa_nil)))) pa_nil)) (by rfl))
      (pss_cons (ps_set (i := 3) sc__law_tapered_right.nd rfl (Or.inl rfl) (pe_op opAdd (pv 2) (pe_f c__law_pick hr hg pass0 (pa_cons (pv 0) (pa_cons (pe_lst (pa_cons pe_int (pa_cons pe_int (pa_cons pe_int (pa_cons pe_int (pa_cons pe_int (pa_cons pe_int pa_nil))))))) pa_nil)))))
      (pss_cons (ps_set (i := 4) sc__law_tapered_right.nd rfl (Or.inl rfl) (pe_st st_tapered hr passF (C8.pe_gc (by rfl) T.g_Chunks) (pa_cons (pv 1) (pa_cons (pv 3) (pa_cons (pv 2) pa_nil)))))
      (pss_one (ps_ret (pe_and (pe_cmpR (KX.eqU (K := K) rfl hr.units) (pe_callTy (KX.callList (K := K) rfl rfl) (by rfl) T.b_list (by decide +kernel) (pa_cons (KX.fld (K := K) rfl (pv 4) rfl) pa_nil)) (pe_f c__law_tapered hr hg pass0 (pa_cons (pv 1) (pa_cons (pv 3) (pa_cons (pv 2) pa_nil)))) (nomark _)) (pe_one (pe_cmpR (cmpOwn (fun _ _ => rfl) T.cmp rfl me_eq hr passF) (pe_stR str_tapered hr passF (C8.pe_gc (by rfl) T.g_Chunks) (pk_cons (pv 2) (pk_cons (pv 3) (pk_cons (pv 1) pk_nil)))) (pv 4) (nomark _))))))))), ?_⟩
    tm_at "s"
    refine ⟨p, n, 300, rfl, by decide, by decide +kernel, hp, by omega, fun d1 H1 d0 d1' hp1 k1 => ?_⟩
    tm_at "s"
    refine s_new (Nat.le_of_lt (small1000 (by simp))) fun l2 H2 n2 e2 h2 => ?_
    have hp2 := hp1.ex e2
    refine ⟨p, l2, n + 1, _, rfl, h2, by simp, by simp, hp2, by omega, fun v H3 hv hp3 k3 => ?_⟩
    obtain ⟨t, rfl, t0, t1⟩ : ∃ t : Int, v = .int t ∧ 0 ≤ t ∧ t ≤ 300 := by
      simp only [List.mem_cons, List.not_mem_nil, or_false] at hv
      rcases hv with rfl | rfl | rfl | rfl | rfl | rfl | rfl <;> exact ⟨_, rfl, by omega, by omega⟩
    tm_at "s"
    refine ⟨p, n + 1 + 1, 6, rfl, by decide, by decide +kernel, hp3, by omega, fun d4 H4 d40 d41 hp4 k4 => ?_⟩
    tm_at "s"
    refine s_new (Nat.le_of_lt (small1000 (by simp))) fun l5 H5 n5 e5 h5 => ?_
    have hp5 := hp4.ex e5
    refine ⟨p, l5, n + 1 + 1 + 1, _, rfl, h5, by simp, by simp, hp5, by omega, fun v H6 hv hp6 k6 => ?_⟩
    obtain ⟨g, rfl, g0, g1⟩ : ∃ g : Int, v = .int g ∧ 0 ≤ g ∧ g ≤ 40 := by
      simp only [List.mem_cons, List.not_mem_nil, or_false] at hv
      rcases hv with rfl | rfl | rfl | rfl | rfl | rfl <;> exact ⟨_, rfl, by decide, by decide⟩
    have kall : ∀ b o, b ≠ p → H b = some o → H6 b = some o := fun b o hb h => k6 b o hb (e5 _ _ (k4 b o hb (k3 b o hb (e2 _ _ (k1 b o hb h)))))
    have fin : ∀ H', Ex H6 H' → Q (.bl true) H' := fun H' e => kq H' _ (by omega) (fun b o hb h => e _ _ (kall b o hb h)) (hp6.ex e)
    try dsimp only
    tm_at "s"
    have hf : siz (1 + d4 + g) := by unfold siz; omega
    have hM := tapM_le (t := t) (f := 1 + d4 + g) (l := 1 + d4) t0 (by omega) (by omega)
    have hM2 : tapM t (1 + d4 + g) (1 + d4) ≤ 5000 := by
      refine (ceil_iff (by omega)).mpr ?_
      have := Int.mul_le_mul_of_nonneg_left (show (2 : Int) ≤ 1 + d4 + g + (1 + d4) by omega) (show (0 : Int) ≤ 5000 by decide)
      omega
    have hE := tapR_end (t := t) (f := 1 + d4 + g) (l := 1 + d4) t0 (by omega) (by omega)
    refine ⟨_, _, _, rfl, .inr ⟨t, rfl, t0, by omega, .inr ⟨1 + d4 + g, rfl, hf, .inr ⟨1 + d4, rfl, by omega, by omega, .inr ⟨_, by omega, hE, fun q1 H7 e7 c7 => ?_⟩⟩⟩⟩⟩
    tm_at "s"
    obtain ⟨dx, u1, _, _, i7, h7, _⟩ := id c7
    refine ⟨q1, C, dx, _, _, rfl, i7, T.c.cl, T.nS, rfl, ?_⟩
    tm_at "s"
    refine s_listT h7 fun l8 H8 n8 e8 h8 => ?_
    tm_at "s"
    refine ⟨t, 1 + d4 + g, 1 + d4, rfl, t0, by omega, by omega, by omega, by omega, fun l9 H9 e9 h9 => ?_⟩
    refine .inr (s_eqD (.lst (.inl (.inl (e9 _ _ h8))) (dpInts _)) (.lst (.inl (.inl h9)) (dpInts _)) (shInts _) (shInts _) ?_)
    rw [SeqAt.eqv_refl _ (SeqAt.canLay_of_shaped (shInts _))]
    tm_at "s"
    refine s_stR ?_
    tm_at "s"
    refine ⟨_, _, _, rfl, .inr ⟨t, rfl, t0, by omega, .inr ⟨1 + d4 + g, rfl, hf, .inr ⟨1 + d4, rfl, by omega, by omega, .inr ⟨_, by omega, hE, fun q2 H10 e10 c10 => ?_⟩⟩⟩⟩⟩
    tm_at "s"
    have c7' := c7.ex (e8.trans (e9.trans e10))
    obtain ⟨d1, _, _, _, i1, _⟩ := id c10
    obtain ⟨d2, _, _, _, i2, _⟩ := id c7'
    refine ⟨q2, d1, _, rfl, i1, .inl ⟨q1, d2, _, rfl, i2⟩, q2, .ref q1, _, rfl, c10, .inl ⟨q1, _, rfl, c7', ?_⟩⟩
    rw [decide_eq_true rfl]
    exact fin H10 (e7.trans (e8.trans (e9.trans e10)))
end
end K13
end
section
local macro_rules | `(tactic| tm_at "s1") => `(tactic| first
  | with_reducible first
    | refine L3.s_seq ?_ | refine L3.s_asg ?_ | refine L3.s_op ?_ | refine L3.s_c ?_ | refine L3.s_cb ?_ | refine L3.s_cons ?_ | refine L3.s_nil ?_ | refine L3.s_test ?_ | refine L3.s_bl ?_
    | refine L3.s_I0 ?_ | refine L3.s_and ?_ | refine L3.s_or ?_ | refine L3.s_not ?_ | refine L3.s_if ?_ | refine L3.s_next ?_ | refine L3.s_ret ?_ | refine L3.s_retN ?_ | refine L3.s_asgS ?_ | refine L3.s_drop ?_
    | refine L3.s_un ?_ | refine L3.s_U ?_ | refine L3.s_int ?_ | refine L3.s_intB ?_ | refine L3.s_abs ?_ | refine L3.s_andV ?_ | refine L3.s_orV ?_ | refine L3.s_notV ?_ | refine L3.s_ifE ?_ | refine L3.s_call ?_ | refine L3.s_lst ?_ | refine L3.s_tup ?_ | refine L3.s_tB ?_
    | refine L3.s_addI ?_ | refine L3.s_inS ?_ | refine L3.s_ninS ?_ | refine L3.s_slice ?_ | refine L3.s_part ?_ | refine L3.s_partI ?_ | refine L3.s_nopart ?_ | refine L3.s_cI ?_ | refine L3.s_cB ?_ | refine L3.s_chain ?_ | refine L3.s_bm ?_ | refine L3.s_lcS ?_ | refine L3.s_lcR ?_ | refine L3.s_strE ?_
    | refine L2.iteT ?_ | refine L2.iteF ?_ | refine L3.iteNF ?_ | refine L3.iteNT ?_
    | refine L3.s_eqI ?_ | refine L3.s_neI ?_ | refine L3.s_eqS ?_ | refine L3.s_neS ?_
    | refine L3.s_pair ?_ | refine L3.s_pair2 ?_ | refine L3.s_fld ?_ | refine L3.s_make ?_ | refine L3.s_m1 ?_ | refine L3.s_isstr ?_
    | refine L3.s_xfV ?_ | refine L3.s_lstN ?_ | refine L3.s_callF ?_ | refine L3.s_lcL ?_ | refine L3.s_par3 ?_ | refine L3.s_trip ?_ | refine L3.s_asgT' ?_ | refine L3.s_gC ?_ | refine L3.s_gN ?_ | refine L3.s_fldG ?_ | refine L3.s_raise1 ?_ | refine L3.s_raise2 ?_ | refine L3.s_star ?_ | refine L3.s_mkCR ?_ | refine L3.s_lcZ ?_ | refine L3.s_forL ?_ | refine L3.s_forT ?_ | refine L3.s_gNm ?_ | refine L3.s_forE ?_ | refine L3.s_stC ?_ | refine L3.s_cmC ?_ | refine L3.s_forR1 ?_ | refine L3.s_lcTp ?_ | refine L3.s_forZ ?_ | refine L3.s_orT ?_ | refine L3.s_mt ?_ | refine L3.s_revT ?_ | refine L3.s_revL ?_
    | refine L3.s_isN ?_ | refine L3.s_isB ?_ | refine L3.s_nisN ?_ | refine L3.s_nisB ?_
  | ((with_reducible refine' L3.s_var ?e ?_); (case e => rfl))
  | ((with_reducible refine' L3.s_aug ?e ?_); (case e => rfl))
  | ((with_reducible refine' L3.s_pow ?c ?_); (case c => exact ⟨by decide, by decide, by decide⟩)))
local macro_rules | `(tactic| tm_at "s") => `(tactic| repeat tm_at "s1")
namespace K13
open PySem PySem.NumText PySem.Spec PyProof.Rows L2 L3 LamX RZ ClX
abbrev s__law_refused_right : Stmt := topS 39
theorem sc__law_refused_right : FnScope ["_law_pen_here", "_law_odd", "_law_bad", "_law_heard_here"] ["_law_pen_here"] (defScope s__law_refused_right) := ⟨rfl, rfl, rfl, by decide +kernel, rfl, by decide +kernel, by decide +kernel⟩
abbrev lamQ2 : Str := (("_law_refused_right" : Str) ++ ".<locals>.") ++ "<lambda>"
section
variable {P : Program} {w : World} {K : PySem.W.Frag} {mg : Str → Option Value} {base : Heap} {C CB CC CM CL CT CN CW : Addr}
def tgD (z : Str) (x : PyData) : List V := [.str z, .str x.shown]
def fD : List V → List PyData := fun vs => vs.map fun v => match v with | .str z => .str z | _ => .none
theorem ok_refused {f c Pt : Addr} {fd : FuncData} (F : FunC K "_law_refused_right" "_law_refused_right" s__law_refused_right c f fd) (TB : TabB base mg c Pt) {Tt : List (Addr × Str)} (hmT : (Pt, lamQ2) ∈ Tt) (huT : ∀ p ∈ Tt, p.1 = Pt → p.2 = lamQ2) (T : Txt K mg C CB CC CM CL CT CN CW) (F5 : Kit5 K CB CC CM CT CN) (FH : HeF K mg)
    (c__law_pick : Fn P w K mg base CX0 2 "_law_pick" ["_law_pen_here", "_law_some"] spPick)
    (st_even : StM P w K mg base (L2.CX P w) 7 C "even" ["total", "size"] (spEvenC K C CB CT CM)) (st_shared : StM P w K mg base (L2.CX P w) 7 C "shared" ["total", "many"] (spShared K C CB CT CM)) (st_tapered : StM P w K mg base (L2.CX P w) 7 C "tapered" ["total", "first", "last"] (spTaper K C CB CT CM)) :
    FnG P w K mg base CX0 12 f fd ["_law_pen_here"] (spEvR Tt) := by
  refine funGC F sc__law_refused_right (fun vs H Q E h => ?_) (fun A fr s H vs Q E hr hg h => ?_)
  · obtain ⟨p, n, rfl, _⟩ := h; rfl
  · obtain ⟨p, n, rfl, W, hlim, kq⟩ := h
    refine ⟨_, (pss_cons (ps_set (i := 1) sc__law_refused_right.nd rfl (Or.inr rfl) (pe_f c__law_pick hr hg pass0 (pa_cons (pv 0) (pa_cons (pe_lst (pa_cons pe_non (pa_cons (pe_un un_neg pe_int) (pa_cons pe_bl (pa_cons pe_str (pa_cons (pe_tup (pa_cons pe_int pa_nil)) (pa_cons (pe_lst pa_nil) (pa_cons (pe_op opAdd (pe_op op_pow pe_int pe_int) pe_int) pa_nil)))))))) pa_nil))))
      (pss_cons (ps_set (i := 2) sc__law_refused_right.nd rfl (Or.inr rfl) (pe_f c__law_pick hr hg pass0 (pa_cons (pv 0) (pa_cons (pe_lst (pa_cons pe_non (pa_cons pe_int (pa_cons (pe_un un_neg pe_int) (pa_cons pe_bl (pa_cons pe_str (pa_cons (pe_lst (pa_cons pe_int pa_nil)) (pa_cons (pe_op opAdd (pe_op op_pow pe_int pe_int) pe_int) pa_nil)))))))) pa_nil))))
      (pss_cons (ps_set (i := 3) sc__law_refused_right.nd rfl (Or.inl rfl) (pe_lst (pa_cons (pe__law_heard FH T F5 TB hg hr hmT huT (lamS_by (sc := defScope s__law_refused_right) (by decide +kernel)) (fun A outer s H E f c' hr' => (pe_st st_even hr' (passT (takes_of rfl rfl rfl rfl) (fun _ _ _ _ h => h)) (C8.pe_gc (by rfl) T.g_Chunks) (pa_cons (pv 1) (pa_cons (pv 2) pa_nil))))) pa_nil)))
      (pss_cons (ps_expr (pe_bm PySem.F.plainAttrs_list PySem.F.slot_list_append PySem.F.type_list_append mt_append (pv 3) (pa_cons (pe__law_heard FH T F5 TB hg hr hmT huT (lamS_by (sc := defScope s__law_refused_right) (by decide +kernel)) (fun A outer s H E f c' hr' => (pe_st st_shared hr' (passT (takes_of rfl rfl rfl rfl) (fun _ _ _ _ h => h)) (C8.pe_gc (by rfl) T.g_Chunks) (pa_cons (pv 1) (pa_cons (pv 2) pa_nil))))) pa_nil)))
      (pss_cons (ps_expr (pe_bm PySem.F.plainAttrs_list PySem.F.slot_list_append PySem.F.type_list_append mt_append (pv 3) (pa_cons (pe__law_heard FH T F5 TB hg hr hmT huT (lamS_by (sc := defScope s__law_refused_right) (by decide +kernel)) (fun A outer s H E f c' hr' => (pe_st st_tapered hr' (passT (takes_of rfl rfl rfl rfl) (fun _ _ _ _ h => h)) (C8.pe_gc (by rfl) T.g_Chunks) (pa_cons (pv 1) (pa_cons (pv 2) (pa_cons (pv 2) pa_nil)))))) pa_nil)))
      (pss_cons (ps_if (pt_cmpR (KX.neU (K := K) rfl hr.units) (pv 3) (pe_op opMul (pe_lst (pa_cons (pe_tup (pa_cons pe_str (pa_cons (pe_callB (KX.callRepr (K := K) rfl hg hr.units) (by rfl) T.b_repr (by decide +kernel) (pa_cons (pv 1) pa_nil)) pa_nil))) pa_nil)) pe_int) (nomark _)) (pss_one (ps_ret pe_bl)) pss_nil)
      (pss_cons (ps_set (i := 3) sc__law_refused_right.nd rfl (Or.inl rfl) (pe_lst (pa_cons (pe__law_heard FH T F5 TB hg hr hmT huT (lamS_by (sc := defScope s__law_refused_right) (by decide +kernel)) (fun A outer s H E f c' hr' => (pe_st st_even hr' (passT (takes_of rfl rfl rfl rfl) (fun _ _ _ _ h => h)) (C8.pe_gc (by rfl) T.g_Chunks) (pa_cons pe_int (pa_cons (pv 2) pa_nil))))) pa_nil)))
      (pss_cons (ps_expr (pe_bm PySem.F.plainAttrs_list PySem.F.slot_list_append PySem.F.type_list_append mt_append (pv 3) (pa_cons (pe__law_heard FH T F5 TB hg hr hmT huT (lamS_by (sc := defScope s__law_refused_right) (by decide +kernel)) (fun A outer s H E f c' hr' => (pe_st st_shared hr' (passT (takes_of rfl rfl rfl rfl) (fun _ _ _ _ h => h)) (C8.pe_gc (by rfl) T.g_Chunks) (pa_cons pe_int (pa_cons (pv 2) pa_nil))))) pa_nil)))
      (pss_cons (ps_expr (pe_bm PySem.F.plainAttrs_list PySem.F.slot_list_append PySem.F.type_list_append mt_append (pv 3) (pa_cons (pe__law_heard FH T F5 TB hg hr hmT huT (lamS_by (sc := defScope s__law_refused_right) (by decide +kernel)) (fun A outer s H E f c' hr' => (pe_st st_tapered hr' (passT (takes_of rfl rfl rfl rfl) (fun _ _ _ _ h => h)) (C8.pe_gc (by rfl) T.g_Chunks) (pa_cons pe_int (pa_cons (pv 2) (pa_cons pe_non pa_nil)))))) pa_nil)))
      (pss_cons (ps_expr (pe_bm PySem.F.plainAttrs_list PySem.F.slot_list_append PySem.F.type_list_append mt_append (pv 3) (pa_cons (pe__law_heard FH T F5 TB hg hr hmT huT (lamS_by (sc := defScope s__law_refused_right) (by decide +kernel)) (fun A outer s H E f c' hr' => (pe_st st_tapered hr' (passT (takes_of rfl rfl rfl rfl) (fun _ _ _ _ h => h)) (C8.pe_gc (by rfl) T.g_Chunks) (pa_cons pe_int (pa_cons pe_int (pa_cons (pv 2) pa_nil)))))) pa_nil)))
      (pss_one (ps_ret (pe_and (pe_cmpR (KX.eqU (K := K) rfl hr.units) (pv 3) (pe_op opMul (pe_lst (pa_cons (pe_tup (pa_cons pe_str (pa_cons (pe_callB (KX.callRepr (K := K) rfl hg hr.units) (by rfl) T.b_repr (by decide +kernel) (pa_cons (pv 2) pa_nil)) pa_nil))) pa_nil)) pe_int) (nomark _)) (pe_one (pe_cmpR (KX.eqU (K := K) rfl hr.units) (pe__law_heard FH T F5 TB hg hr hmT huT (lamS_by (sc := defScope s__law_refused_right) (by decide +kernel)) (fun A outer s H E f c' hr' => (pe_st st_tapered hr' (passT (takes_of rfl rfl rfl rfl) (fun _ _ _ _ h => h)) (C8.pe_gc (by rfl) T.g_Chunks) (pa_cons pe_int (pa_cons pe_int (pa_cons pe_int pa_nil)))))) (pe_tup (pa_cons pe_str (pa_cons pe_str pa_nil))) (nomark _)))))))))))))))), ?_⟩
    tm_at "s"
    refine s_new (Nat.le_of_lt (small1000 (by simp))) fun ta H1 n1 e1 h1 => ?_
    tm_at "s"
    refine s_new (Nat.le_of_lt (small1000 (by simp))) fun la H2 n2 e2 h2 => ?_
    tm_at "s"
    refine s_new (Nat.le_of_lt (small1000 (by simp))) fun z1 H3 n3 e3 h3 => ?_
    have W3 := W.ex (e1.trans (e2.trans e3))
    refine ⟨p, z1, n, _, rfl, h3, by simp, by simp, W3.pen, by omega, fun v1 H4 hv1 p4 k4 => ?_⟩
    have W4 := W3.keep p4 k4
    have ta4 := tup_keep (e3 _ _ (e2 _ _ h1)) W3.pen k4
    have la4 := lst_keep (e3 _ _ h2) W3.pen k4
    try dsimp only
    tm_at "s"
    refine s_new (Nat.le_of_lt (small1000 (by simp))) fun lb H5 n5 e5 h5 => ?_
    tm_at "s"
    refine s_new (Nat.le_of_lt (small1000 (by simp))) fun z2 H6 n6 e6 h6 => ?_
    have W6 := W4.ex (e5.trans e6)
    refine ⟨p, z2, n + 1, _, rfl, h6, by simp, by simp, W6.pen, by omega, fun v2 H7 hv2 p7 k7 => ?_⟩
    have W7 := W6.keep p7 k7
    have ta7 := tup_keep (e6 _ _ (e5 _ _ ta4)) W6.pen k7
    have la7 := lst_keep (e6 _ _ (e5 _ _ la4)) W6.pen k7
    have lb7 := lst_keep (e6 _ _ h5) W6.pen k7
    have o1 : ∃ x, ShV H7 K v1 x ∧ OutS K H7 v1 0 (10 ^ 30) := by
      simp only [List.mem_cons, List.not_mem_nil, or_false] at hv1
      rcases hv1 with rfl | rfl | rfl | rfl | rfl | rfl | rfl
      · exact ⟨.none, ⟨.non, rfl, by decide, by decide +kernel, by decide +kernel⟩, .inl (.inr ⟨_, .x (.base .non), kit_ty (by decide +kernel)⟩)⟩
      · exact ⟨_, ShV.int (by decide +kernel), .inr ⟨_, rfl, by decide⟩⟩
      · exact ⟨.bool true, ⟨.bl _, rfl, by decide, by decide +kernel, by decide +kernel⟩, .inl (.inl ⟨_, rfl⟩)⟩
      · exact ⟨.str "9", ⟨.str _, by decide +kernel, by decide, by decide +kernel, by decide +kernel⟩, .inl (.inr ⟨_, .x (.base (.str _)), kit_ty (by decide +kernel)⟩)⟩
      · exact ⟨.tuple [.int 9], ⟨.tup (.inl (.inl ta7)) (.cons (.int _) .nil), by decide +kernel, by decide +kernel, by decide +kernel, by decide +kernel⟩, .inl (.inr ⟨_, .x (.base (.tup ta7)), kit_ty (by decide +kernel)⟩)⟩
      · exact ⟨.list [], ⟨.lst (.inl (.inl la7)) .nil, by decide +kernel, by decide +kernel, by decide +kernel, by decide +kernel⟩, .inl (.inr ⟨_, .x (.base (.lst la7)), kit_ty (by decide +kernel)⟩)⟩
      · exact ⟨_, ShV.int (by decide +kernel), .inr ⟨_, rfl, by decide +kernel⟩⟩
    have o2 : ∃ x, ShV H7 K v2 x ∧ (NI K H7 v2 ∨ ∃ i, v2 = .int i ∧ (i ≤ 0 ∨ 10 ^ 30 < i)) := by
      simp only [List.mem_cons, List.not_mem_nil, or_false] at hv2
      rcases hv2 with rfl | rfl | rfl | rfl | rfl | rfl | rfl
      · exact ⟨.none, ⟨.non, rfl, by decide, by decide +kernel, by decide +kernel⟩, .inl (.inr ⟨_, .x (.base .non), kit_ty (by decide +kernel)⟩)⟩
      · exact ⟨_, ShV.int (by decide +kernel), .inr ⟨_, rfl, by decide⟩⟩
      · exact ⟨_, ShV.int (by decide +kernel), .inr ⟨_, rfl, by decide⟩⟩
      · exact ⟨.bool true, ⟨.bl _, rfl, by decide, by decide +kernel, by decide +kernel⟩, .inl (.inl ⟨_, rfl⟩)⟩
      · exact ⟨.str "1", ⟨.str _, by decide +kernel, by decide, by decide +kernel, by decide +kernel⟩, .inl (.inr ⟨_, .x (.base (.str _)), kit_ty (by decide +kernel)⟩)⟩
      · exact ⟨.list [.int 1], ⟨.lst (.inl (.inl lb7)) (.cons (.int _) .nil), by decide +kernel, by decide +kernel, by decide +kernel, by decide +kernel⟩, .inl (.inr ⟨_, .x (.base (.lst lb7)), kit_ty (by decide +kernel)⟩)⟩
      · exact ⟨_, ShV.int (by decide +kernel), .inr ⟨_, rfl, by decide +kernel⟩⟩
    obtain ⟨x1, s1, o1⟩ := o1
    obtain ⟨x2, s2, o2⟩ := o2
    have o2n : ∀ {H'}, ExtN H7 H' → ∀ a b : Int, 1 ≤ a → b ≤ 10 ^ 30 → OutS K H' v2 a b := fun e a b ha hb => o2.imp (fun h => h.exN e) fun ⟨i, q, h⟩ => ⟨i, q, by omega⟩
    have kz : ∀ H', Wo Tt H' p (n + 1 + 1) → Q (.bl true) H' := fun H' w => kq H' _ (by omega) w
    clear kq k7 k4 hv1 hv2 lb7 la7 ta7 la4 ta4 h6 h5 h3 h2 h1
    try dsimp only
    tm_at "s"
    refine s_hkTo W7.tabs s1 (fun E1 Ha Q' ea ta rz => ?_) (fun r1 Ha ea ta g1 => ?_)
    · tm_at "s"
      exact ⟨_, _, rfl, .inl ⟨o1.exN ea, rz⟩⟩
    have W8 := W7.exN ea ta
    tm_at "s"
    refine s_new (Nat.le_of_lt (small1000 (by simp))) fun hh H9 n9 e9 h9 => ?_
    have A1 : HdAt H9 hh [tgD "total" x1] := .one h9 (e9 _ _ g1)
    have W9 := W8.ex e9
    have E9 : ExtN H7 H9 := ea.trans e9.n
    have nh := fun b o (h : H7 b = some o) hc => ne_of_none (ea b o h hc) n9
    try dsimp only
    tm_at "s"
    refine A1.sq ?_
    tm_at "s"
    refine s_hkTo W9.tabs (s1.exN E9) (fun E1 Ha Q' ea ta rz => ?_) (fun r2 Ha ea ta g2 => ?_)
    · tm_at "s"
      exact ⟨_, _, rfl, .inl ⟨o1.exN (E9.trans ea), rz⟩⟩
    tm_at "s"
    refine (A1.exN ea).put (by simp) g2 fun H11 k11 w11 A2 => ?_
    have E11 : ExtN H7 H11 := fun b o h hc => k11 b o (nh b o h hc) ((E9.trans ea) b o h hc)
    have W11 := w11 _ _ _ (W9.exN ea ta)
    try dsimp only
    tm_at "s"
    refine A2.sq ?_
    tm_at "s"
    refine s_hkTo W11.tabs (s1.exN E11) (fun E1 Ha Q' ea ta rz => ?_) (fun r3 Ha ea ta g3 => ?_)
    · tm_at "s"
      exact ⟨_, _, _, rfl, .inl ⟨o1.exN (E11.trans ea), rz⟩⟩
    tm_at "s"
    refine (A2.exN ea).put (by simp) g3 fun H13 k13 w13 A3 => ?_
    have E13 : ExtN H7 H13 := fun b o h hc => k13 b o (nh b o h hc) ((E11.trans ea) b o h hc)
    have W13 := w13 _ _ _ (W11.exN ea ta)
    try dsimp only
    tm_at "s"
    have s13 := s1.exN E13
    refine s_reprG s13.dp s13.sh s13.dep s13.len ?_
    tm_at "s"
    refine s_new (Nat.le_of_lt (small1000 (by simp))) fun c1 K1 m1 f1 j1 => ?_
    tm_at "s"
    refine s_new (Nat.le_of_lt (small1000 (by simp))) fun c2 K2 m2 f2 j2 => ?_
    tm_at "s"
    refine s_repG j2 (by decide) (by decide) (show 1 * 3 ≤ sizeLine by decide +kernel) fun c3 K3 m3 f3 j3 => ?_
    rw [rep_one] at j3
    have j1' := f3 _ _ (f2 _ _ j1)
    have D3 : HdAt K3 c3 [tgD "total" x1, tgD "total" x1, tgD "total" x1] := ⟨[c1, c1, c1], j3, j1', j1', j1', trivial⟩
    have f13 := f1.trans (f2.trans f3)
    have A6 : HdAt K3 hh [tgD "total" x1, tgD "total" x1, tgD "total" x1] := A3.ex f13
    have dpp : ∀ t ∈ [tgD "total" x1, tgD "total" x1, tgD "total" x1], DpAll K K3 t (fD t) := fun t ht => by
      simp only [List.mem_cons, List.not_mem_nil, or_false] at ht
      rcases ht with rfl | rfl | rfl <;> exact .cons (.str _) (.cons (.str _) .nil)
    have shd : SeqAt.shaped (.list ([tgD "total" x1, tgD "total" x1, tgD "total" x1].map fun t => .tuple (fD t))) = true := shPairs fun d hd => by
      simp only [List.map_cons, List.map_nil, List.mem_cons, List.not_mem_nil, or_false] at hd
      rcases hd with rfl | rfl | rfl <;> exact ⟨_, _, rfl, by decide +kernel, s1.ok⟩
    refine .inr (s_neD (A6.dp dpp) (D3.dp dpp) shd shd ?_)
    rw [SeqAt.eqv_refl (.list ([tgD "total" x1, tgD "total" x1, tgD "total" x1].map fun t => .tuple (fD t))) (SeqAt.canLay_of_shaped shd)]
    have E14 : ExtN H7 K3 := E13.trans f13.n
    have W14 := W13.ex f13
    clear A6 D3 A3 A2 A1 j3 j1' j2 j1 dpp shd s13
    tm_at "s"
    refine s_hkSz W14.tabs (s2.exN E14) (fun E1 Ha Q' ea ta rz => ?_) (fun r1 Ha ea ta g1 => ?_)
    · tm_at "s"
      exact ⟨_, _, rfl, .inr ⟨9, rfl, by decide, by decide, .inl ⟨o2n (E14.trans ea) _ _ (by decide) (by decide), rz⟩⟩⟩
    have W15 := W14.exN ea ta
    tm_at "s"
    refine s_new (Nat.le_of_lt (small1000 (by simp))) fun hi H16 n16 e16 h16 => ?_
    have A1 : HdAt H16 hi [tgD "size" x2] := .one h16 (e16 _ _ g1)
    have W16 := W15.ex e16
    have E16 : ExtN H7 H16 := (E14.trans ea).trans e16.n
    have nh := fun b o (h : H7 b = some o) hc => ne_of_none ((E14.trans ea) b o h hc) n16
    try dsimp only
    tm_at "s"
    refine A1.sq ?_
    tm_at "s"
    refine s_hkSz W16.tabs (s2.exN E16) (fun E1 Ha Q' ea ta rz => ?_) (fun r2 Ha ea ta g2 => ?_)
    · tm_at "s"
      exact ⟨_, _, rfl, .inr ⟨9, rfl, by decide, by decide, .inl ⟨o2n (E16.trans ea) _ _ (by decide) (by decide), rz⟩⟩⟩
    tm_at "s"
    refine (A1.exN ea).put (by simp) g2 fun H18 k18 w18 A2 => ?_
    have E18 : ExtN H7 H18 := fun b o h hc => k18 b o (nh b o h hc) ((E16.trans ea) b o h hc)
    have W18 := w18 _ _ _ (W16.exN ea ta)
    try dsimp only
    tm_at "s"
    refine A2.sq ?_
    tm_at "s"
    refine s_hkSz W18.tabs (s2.exN E18) (fun E1 Ha Q' ea ta rz => ?_) (fun r3 Ha ea ta g3 => ?_)
    · tm_at "s"
      exact ⟨_, _, _, rfl, .inr ⟨9, rfl, by decide, by decide, .inl ⟨o2n (E18.trans ea) _ _ (by decide) (by decide), rz⟩⟩⟩
    tm_at "s"
    refine (A2.exN ea).put (by simp) g3 fun H20 k20 w20 A3 => ?_
    have E20 : ExtN H7 H20 := fun b o h hc => k20 b o (nh b o h hc) ((E18.trans ea) b o h hc)
    have W20 := w20 _ _ _ (W18.exN ea ta)
    try dsimp only
    tm_at "s"
    refine A3.sq ?_
    tm_at "s"
    refine s_hkSz W20.tabs (s2.exN E20) (fun E1 Ha Q' ea ta rz => ?_) (fun r4 Ha ea ta g4 => ?_)
    · tm_at "s"
      exact ⟨_, _, _, rfl, .inr ⟨9, rfl, by decide, by decide, .inr ⟨5, rfl, by unfold siz; decide, .inl ⟨o2n (E20.trans ea) _ _ (by decide) (by decide), rz⟩⟩⟩⟩
    tm_at "s"
    refine (A3.exN ea).put (by simp) g4 fun H22 k22 w22 A4 => ?_
    have E22 : ExtN H7 H22 := fun b o h hc => k22 b o (nh b o h hc) ((E20.trans ea) b o h hc)
    have W22 := w22 _ _ _ (W20.exN ea ta)
    try dsimp only
    tm_at "s"
    have s22 := s2.exN E22
    refine s_reprG s22.dp s22.sh s22.dep s22.len ?_
    tm_at "s"
    refine s_new (Nat.le_of_lt (small1000 (by simp))) fun c1 K1 m1 f1 j1 => ?_
    tm_at "s"
    refine s_new (Nat.le_of_lt (small1000 (by simp))) fun c2 K2 m2 f2 j2 => ?_
    tm_at "s"
    refine s_repG j2 (by decide) (by decide) (show 1 * 4 ≤ sizeLine by decide +kernel) fun c3 K3 m3 f3 j3 => ?_
    rw [rep_one] at j3
    have j1' := f3 _ _ (f2 _ _ j1)
    have D3 : HdAt K3 c3 [tgD "size" x2, tgD "size" x2, tgD "size" x2, tgD "size" x2] := ⟨[c1, c1, c1, c1], j3, j1', j1', j1', j1', trivial⟩
    have f13 := f1.trans (f2.trans f3)
    have A6 : HdAt K3 hi [tgD "size" x2, tgD "size" x2, tgD "size" x2, tgD "size" x2] := A4.ex f13
    have dpp : ∀ t ∈ [tgD "size" x2, tgD "size" x2, tgD "size" x2, tgD "size" x2], DpAll K K3 t (fD t) := fun t ht => by
      simp only [List.mem_cons, List.not_mem_nil, or_false] at ht
      rcases ht with rfl | rfl | rfl | rfl <;> exact .cons (.str _) (.cons (.str _) .nil)
    have shd : SeqAt.shaped (.list ([tgD "size" x2, tgD "size" x2, tgD "size" x2, tgD "size" x2].map fun t => .tuple (fD t))) = true := shPairs fun d hd => by
      simp only [List.map_cons, List.map_nil, List.mem_cons, List.not_mem_nil, or_false] at hd
      rcases hd with rfl | rfl | rfl | rfl <;> exact ⟨_, _, rfl, by decide +kernel, s2.ok⟩
    refine .inr (s_eqD (A6.dp dpp) (D3.dp dpp) shd shd ?_)
    rw [SeqAt.eqv_refl (.list ([tgD "size" x2, tgD "size" x2, tgD "size" x2, tgD "size" x2].map fun t => .tuple (fD t))) (SeqAt.canLay_of_shaped shd)]
    have W23 := W22.ex f13
    tm_at "s"
    refine s_hkSz (v := .int 6) (x := .int 6) W23.tabs (ShV.int (by decide +kernel)) (fun E1 Ha Q' ea ta rz => ?_) (fun r1 H24 e24 t24 g1 => ?_)
    · tm_at "s"
      exact ⟨_, _, _, rfl, .inr ⟨9, rfl, by decide, by decide, .inr ⟨5, rfl, by unfold siz; decide, .inl ⟨.inr ⟨6, rfl, by decide⟩, rz⟩⟩⟩⟩
    have W24 := W23.exN e24 t24
    tm_at "s"
    refine s_new (Nat.le_of_lt (small1000 (by simp))) fun l25 H25 n25 e25 h25 => ?_
    refine .inr (s_eqD (.tup (.inl (.inl (e25 _ _ g1))) (.cons (.str _) (.cons (.str _) .nil))) (.tup (.inl (.inl h25)) (.cons (.str _) (.cons (.str _) .nil))) (sh2 (by decide +kernel) (strOkI 6)) (sh2 (by decide +kernel) (by decide +kernel)) ?_)
    rw [show (PyData.int 6).shown = ("6" : Str) by decide +kernel, SeqAt.eqv_refl _ (SeqAt.canLay_of_shaped (sh2 (by decide +kernel) (by decide +kernel)))]
    exact kz H25 (W24.ex e25)
end
end K13
end
section
local macro_rules | `(tactic| tm_at "s1") => `(tactic| first
  | with_reducible first
    | refine L3.s_seq ?_ | refine L3.s_asg ?_ | refine L3.s_op ?_ | refine L3.s_c ?_ | refine L3.s_cb ?_ | refine L3.s_cons ?_ | refine L3.s_nil ?_ | refine L3.s_test ?_ | refine L3.s_bl ?_
    | refine L3.s_I0 ?_ | refine L3.s_and ?_ | refine L3.s_or ?_ | refine L3.s_not ?_ | refine L3.s_if ?_ | refine L3.s_next ?_ | refine L3.s_ret ?_ | refine L3.s_retN ?_ | refine L3.s_asgS ?_ | refine L3.s_drop ?_
    | refine L3.s_un ?_ | refine L3.s_U ?_ | refine L3.s_int ?_ | refine L3.s_intB ?_ | refine L3.s_abs ?_ | refine L3.s_andV ?_ | refine L3.s_orV ?_ | refine L3.s_notV ?_ | refine L3.s_ifE ?_ | refine L3.s_call ?_ | refine L3.s_lst ?_ | refine L3.s_tup ?_ | refine L3.s_tB ?_
    | refine L3.s_addI ?_ | refine L3.s_inS ?_ | refine L3.s_ninS ?_ | refine L3.s_slice ?_ | refine L3.s_part ?_ | refine L3.s_partI ?_ | refine L3.s_nopart ?_ | refine L3.s_cI ?_ | refine L3.s_cB ?_ | refine L3.s_chain ?_ | refine L3.s_bm ?_ | refine L3.s_lcS ?_ | refine L3.s_lcR ?_ | refine L3.s_strE ?_
    | refine L2.iteT ?_ | refine L2.iteF ?_ | refine L3.iteNF ?_ | refine L3.iteNT ?_
    | refine L3.s_eqI ?_ | refine L3.s_neI ?_ | refine L3.s_eqS ?_ | refine L3.s_neS ?_
    | refine L3.s_pair ?_ | refine L3.s_pair2 ?_ | refine L3.s_fld ?_ | refine L3.s_make ?_ | refine L3.s_m1 ?_ | refine L3.s_isstr ?_
    | refine L3.s_xfV ?_ | refine L3.s_lstN ?_ | refine L3.s_callF ?_ | refine L3.s_lcL ?_ | refine L3.s_par3 ?_ | refine L3.s_trip ?_ | refine L3.s_asgT' ?_ | refine L3.s_gC ?_ | refine L3.s_gN ?_ | refine L3.s_fldG ?_ | refine L3.s_raise1 ?_ | refine L3.s_raise2 ?_ | refine L3.s_star ?_ | refine L3.s_mkCR ?_ | refine L3.s_lcZ ?_ | refine L3.s_forL ?_ | refine L3.s_forT ?_ | refine L3.s_gNm ?_ | refine L3.s_forE ?_ | refine L3.s_stC ?_ | refine L3.s_cmC ?_ | refine L3.s_forR1 ?_ | refine L3.s_lcTp ?_ | refine L3.s_forZ ?_ | refine L3.s_orT ?_ | refine L3.s_mt ?_ | refine L3.s_revT ?_ | refine L3.s_revL ?_
    | refine L3.s_isN ?_ | refine L3.s_isB ?_ | refine L3.s_nisN ?_ | refine L3.s_nisB ?_
  | ((with_reducible refine' L3.s_var ?e ?_); (case e => rfl))
  | ((with_reducible refine' L3.s_aug ?e ?_); (case e => rfl))
  | ((with_reducible refine' L3.s_pow ?c ?_); (case c => exact ⟨by decide, by decide, by decide⟩)))
local macro_rules | `(tactic| tm_at "s") => `(tactic| repeat tm_at "s1")
namespace K13
open PySem PySem.NumText PySem.Spec PyProof.Rows L2 L3 LamX RZ ClX
abbrev s_law : Stmt := topS 40
theorem sc_law : FnScope ["_law_script", "_law_pen_here", "_law_turn", "_law_heard_here", "_law_great"] ["_law_script"] (defScope s_law) := ⟨rfl, rfl, rfl, by decide +kernel, rfl, by decide +kernel, by decide +kernel⟩
abbrev lamQ3 : Str := (("law" : Str) ++ ".<locals>.") ++ "<lambda>"
section
variable {P : Program} {w : World} {K : PySem.W.Frag} {mg : Str → Option Value} {base : Heap} {C CB CC CM CL CT CN CW : Addr}
def spLaw (K : PySem.W.Frag) (TT : List (Addr × Str)) : Sp := fun vs H Q _ => ∃ a ns, vs = [.ref a] ∧ SqL K H a (ns.map V.int) ∧ (ns : List Int).length ≤ 63 ∧ Tabs TT H ∧ ∀ H', Q (.bl true) H'
def manD : List V := [.str "many", .str "chunks", .int 5000]
def fM : List V → List PyData := fun vs => vs.map fun v => match v with | .str z => .str z | .int i => .int i | _ => .none
theorem ok_law {f c Pt : Addr} {fd : FuncData} (F : FunC K "law" "law" s_law c f fd) (TB : TabB base mg c Pt) {Tt : List (Addr × Str)} (hmT : (Pt, lamQ3) ∈ Tt) (huT : ∀ p ∈ Tt, p.1 = Pt → p.2 = lamQ3) (T : Txt K mg C CB CC CM CL CT CN CW) (F5 : Kit5 K CB CC CM CT CN) (FH : HeF K mg)
    (c__law_pen : Fn P w K mg base CX0 1 "_law_pen" ["_law_script"] (spPen K)) (c__law_even_right : Fn P w K mg base CX0 12 "_law_even_right" ["_law_pen_here"] (spEvR Tt))
    (c__law_tapered_right : Fn P w K mg base CX0 9 "_law_tapered_right" ["_law_pen_here"] spTapR) (c__law_refused_right : Fn P w K mg base CX0 12 "_law_refused_right" ["_law_pen_here"] (spEvR Tt))
    (st_even : StM P w K mg base (L2.CX P w) 7 C "even" ["total", "size"] (spEvenC K C CB CT CM)) (st_shared : StM P w K mg base (L2.CX P w) 7 C "shared" ["total", "many"] (spShared K C CB CT CM)) (st_tapered : StM P w K mg base (L2.CX P w) 7 C "tapered" ["total", "first", "last"] (spTaper K C CB CT CM))
    (me_len : Me P w K mg base C "__len__" 1 ["self"] (spLenC C)) :
    FnG P w K mg base CX0 14 f fd ["_law_script"] (spLaw K Tt) := by
  refine funGC F sc_law (fun vs H Q E h => ?_) (fun A fr s H vs Q E hr hg h => ?_)
  · obtain ⟨a, ns, rfl, _⟩ := h; rfl
  · obtain ⟨a, ns, rfl, hs, hl, ht, k⟩ := h
    refine ⟨_, (pss_cons (ps_set (i := 1) sc_law.nd rfl (Or.inl rfl) (pe_f c__law_pen hr hg pass0 (pa_cons (pv 0) pa_nil)))
      (pss_cons (ps_for (passes_of rfl) rfl (pi_range1 (by rfl) T.b_range (pa_cons pe_int pa_nil)) (pg_name (i := 2) sc_law.nd rfl (Or.inl rfl)) (pss_one (ps_if (PW.pt (pw_or (pt_not (pt_val (pe_f c__law_even_right hr hg pass0 (pa_cons (pv 1) pa_nil)))) (pw_or (pt_not (pt_val (pe_f c__law_tapered_right hr hg pass0 (pa_cons (pv 1) pa_nil)))) (pw_or1 (pt_not (pt_val (pe_f c__law_refused_right hr hg pass0 (pa_cons (pv 1) pa_nil)))))))) (pss_one (ps_ret pe_bl)) pss_nil)))
      (pss_cons (ps_if (PW.pt (pw_or (pt_cmpR (KX.neU (K := K) rfl hr.units) (pe_callB (callLenOwn me_len hr passF) (by rfl) T.b_len (by decide +kernel) (pa_cons (pe_st st_even hr passF (C8.pe_gc (by rfl) T.g_Chunks) (pa_cons (pe_op opMul pe_int pe_int) (pa_cons pe_int pa_nil))) pa_nil)) pe_int (nomark _)) (pw_or1 (pt_cmpR (KX.neU (K := K) rfl hr.units) (pe_callB (callLenOwn me_len hr passF) (by rfl) T.b_len (by decide +kernel) (pa_cons (pe_st st_shared hr passF (C8.pe_gc (by rfl) T.g_Chunks) (pa_cons (pe_op op_pow pe_int pe_int) (pa_cons pe_int pa_nil))) pa_nil)) pe_int (nomark _))))) (pss_one (ps_ret pe_bl)) pss_nil)
      (pss_cons (ps_set (i := 3) sc_law.nd rfl (Or.inl rfl) (pe_lst (pa_cons (pe__law_heard FH T F5 TB hg hr hmT huT (lamS_by (sc := defScope s_law) (by decide +kernel)) (fun A outer s H E f c' hr' => (pe_st st_even hr' (passT (takes_of rfl rfl rfl rfl) (fun _ _ _ _ h => h)) (C8.pe_gc (by rfl) T.g_Chunks) (pa_cons (pe_op opAdd (pe_op opMul pe_int pe_int) pe_int) (pa_cons pe_int pa_nil))))) pa_nil)))
      (pss_cons (ps_expr (pe_bm PySem.F.plainAttrs_list PySem.F.slot_list_append PySem.F.type_list_append mt_append (pv 3) (pa_cons (pe__law_heard FH T F5 TB hg hr hmT huT (lamS_by (sc := defScope s_law) (by decide +kernel)) (fun A outer s H E f c' hr' => (pe_st st_even hr' (passT (takes_of rfl rfl rfl rfl) (fun _ _ _ _ h => h)) (C8.pe_gc (by rfl) T.g_Chunks) (pa_cons (pe_op op_pow pe_int pe_int) (pa_cons pe_int pa_nil))))) pa_nil)))
      (pss_cons (ps_expr (pe_bm PySem.F.plainAttrs_list PySem.F.slot_list_append PySem.F.type_list_append mt_append (pv 3) (pa_cons (pe__law_heard FH T F5 TB hg hr hmT huT (lamS_by (sc := defScope s_law) (by decide +kernel)) (fun A outer s H E f c' hr' => (pe_st st_shared hr' (passT (takes_of rfl rfl rfl rfl) (fun _ _ _ _ h => h)) (C8.pe_gc (by rfl) T.g_Chunks) (pa_cons (pe_op op_pow pe_int pe_int) (pa_cons pe_int pa_nil))))) pa_nil)))
      (pss_cons (ps_expr (pe_bm PySem.F.plainAttrs_list PySem.F.slot_list_append PySem.F.type_list_append mt_append (pv 3) (pa_cons (pe__law_heard FH T F5 TB hg hr hmT huT (lamS_by (sc := defScope s_law) (by decide +kernel)) (fun A outer s H E f c' hr' => (pe_st st_tapered hr' (passT (takes_of rfl rfl rfl rfl) (fun _ _ _ _ h => h)) (C8.pe_gc (by rfl) T.g_Chunks) (pa_cons (pe_op op_pow pe_int pe_int) (pa_cons pe_int (pa_cons pe_int pa_nil)))))) pa_nil)))
      (pss_cons (ps_if (pt_cmpR (KX.neU (K := K) rfl hr.units) (pv 3) (pe_op opMul (pe_lst (pa_cons (pe_tup (pa_cons pe_str (pa_cons pe_str (pa_cons pe_int pa_nil)))) pa_nil)) pe_int) (nomark _)) (pss_one (ps_ret pe_bl)) pss_nil)
      (pss_cons (ps_if (pt_cmpR (KX.neU (K := K) rfl hr.units) (pe_callB (callLenOwn me_len hr passF) (by rfl) T.b_len (by decide +kernel) (pa_cons (pe_st st_tapered hr passF (C8.pe_gc (by rfl) T.g_Chunks) (pa_cons pe_int (pa_cons pe_int (pa_cons pe_int pa_nil)))) pa_nil)) pe_int (nomark _)) (pss_one (ps_ret pe_bl)) pss_nil)
      (pss_cons (ps_set (i := 4) sc_law.nd rfl (Or.inl rfl) (pe_st st_tapered hr passF (C8.pe_gc (by rfl) T.g_Chunks) (pa_cons (pe_op op_pow pe_int pe_int) (pa_cons (pe_op opMul pe_int (pe_op op_pow pe_int pe_int)) (pa_cons pe_int pa_nil)))))
      (pss_one (ps_ret (pe_and (pe_cmpR (KX.eqU (K := K) rfl hr.units) (KX.fld (K := K) rfl (pv 4) rfl) (pe_op op_pow pe_int pe_int) (nomark _)) (pe_and (pe_cmpR (KX.eqU (K := K) rfl hr.units) (pe_callB (callLenOwn me_len hr passF) (by rfl) T.b_len (by decide +kernel) (pa_cons (pv 4) pa_nil)) pe_int (nomark _)) (pe_one (pe_cmpR (KX.eqU (K := K) rfl hr.units) (pe_callB (callLenOwn me_len hr passF) (by rfl) T.b_len (by decide +kernel) (pa_cons (pe_st st_tapered hr passF (C8.pe_gc (by rfl) T.g_Chunks) (pa_cons pe_int (pa_cons pe_int (pa_cons pe_int pa_nil)))) pa_nil)) pe_int (nomark _))))))))))))))))), ?_⟩
    tm_at "s"
    refine ⟨a, ns, rfl, hs, hl, fun p H1 hp e1 p1 => ?_⟩
    have W1 : Wo Tt H1 p 0 := ⟨p1, ht.ext e1⟩
    try dsimp only
    tm_at "s"
    refine ⟨by decide, by decide, ?_⟩
    refine forRg (n := 6) (fun i σ H' => (∃ v2, σ = [some (.ref a), some (.ref p), v2, none, none]) ∧ ∃ m', m' ≤ 1000 * i ∧ Wo Tt H' p m') ⟨⟨_, rfl⟩, 0, by omega, W1⟩ ?_ ?_
    · rintro i _ H2 hi ⟨⟨v2, rfl⟩, m', hm', W2⟩
      refine s_gNm ?_
      try dsimp only
      tm_at "s"
      refine ⟨p, m', rfl, W2, by unfold lim; omega, fun H3 m3 hm3 W3 => ?_⟩
      tm_at "s"
      refine ⟨p, m3, rfl, W3.pen, by unfold lim; omega, fun H4 m4 hm4 k4 p4 => ?_⟩
      have W4 := W3.keep p4 k4
      tm_at "s"
      refine ⟨p, m4, rfl, W4, by unfold lim; omega, fun H5 m5 hm5 W5 => ?_⟩
      tm_at "s"
      exact ⟨⟨_, rfl⟩, m5, by omega, W5⟩
    · rintro _ H2 ⟨⟨v2, rfl⟩, m', hm', W2⟩
      try dsimp only
      tm_at "s"
      refine s_mulI (mulL (by decide)) ?_
      tm_at "s"
      refine ⟨_, _, rfl, .inr ⟨35000, rfl, by decide, by decide, .inr ⟨7, rfl, by unfold siz; decide, .inr ⟨by decide, fun q1 H3 e3 c3 => ?_⟩⟩⟩⟩
      obtain ⟨d1, _, _, _, i1, _⟩ := id c3
      have l1 : ((evenL 35000 7).length : Int) = 5000 := by rw [evenL_len (by decide) (by decide)]; rfl
      tm_at "s"
      refine ⟨q1, d1, _, rfl, i1, q1, _, rfl, c3, _, rfl, by omega, by omega, ?_⟩
      rw [l1]
      tm_at "s"
      refine iteND (fun z => absurd rfl z) (fun _ => ?_)
      tm_at "s"
      refine ⟨_, _, rfl, .inr ⟨_, rfl, by decide +kernel, by decide +kernel, .inr ⟨5000, rfl, by decide +kernel, by decide +kernel, .inr ⟨by decide, fun q2 H4 e4 c4 => ?_⟩⟩⟩⟩
      obtain ⟨d2, _, _, _, i2, _⟩ := id c4
      tm_at "s"
      refine ⟨q2, d2, _, rfl, i2, q2, _, rfl, c4, _, rfl, by omega, by rw [sharedL_len]; decide, ?_⟩
      rw [sharedL_len]
      tm_at "s"
      refine iteND (fun z => absurd rfl z) (fun _ => ?_)
      have W4 := W2.ex (e3.trans e4)
      tm_at "s"
      refine s_hearMy (v1 := .str "chunks") (v2 := .int 5000) W4.tabs (fun E1 Ha Q' ea ta rz => ?_) (fun r1 H5 e5 t5 g1 => ?_)
      · tm_at "s"
        refine s_mulI (mulL (by decide)) ?_
        tm_at "s"
        exact ⟨_, _, rfl, .inr ⟨35001, rfl, by decide, by decide, .inr ⟨7, rfl, by unfold siz; decide, .inl ⟨by decide, rz⟩⟩⟩⟩
      have W5 := W4.exN e5 t5
      tm_at "s"
      refine s_new (Nat.le_of_lt (small1000 (by simp))) fun hh H6 n6 e6 h6 => ?_
      have A1 : HdAt H6 hh [manD] := .one h6 (e6 _ _ g1)
      have W6 := W5.ex e6
      try dsimp only
      tm_at "s"
      refine A1.sq ?_
      tm_at "s"
      refine s_hearMy (v1 := .str "chunks") (v2 := .int 5000) W6.tabs (fun E1 Ha Q' ea ta rz => ?_) (fun r2 Ha ea ta g2 => ?_)
      · tm_at "s"
        exact ⟨_, _, rfl, .inr ⟨_, rfl, by decide +kernel, by decide +kernel, .inr ⟨1, rfl, by unfold siz; decide, .inl ⟨by decide +kernel, rz⟩⟩⟩⟩
      tm_at "s"
      refine (A1.exN ea).put (by decide) g2 fun H8 k8 w8 A2 => ?_
      have W8 := w8 _ _ _ (W6.exN ea ta)
      try dsimp only
      tm_at "s"
      refine A2.sq ?_
      tm_at "s"
      refine s_hearMy (v1 := .str "chunks") (v2 := .int 5000) W8.tabs (fun E1 Ha Q' ea ta rz => ?_) (fun r3 Ha ea ta g3 => ?_)
      · tm_at "s"
        exact ⟨_, _, rfl, .inr ⟨_, rfl, by decide +kernel, by decide +kernel, .inr ⟨5001, rfl, by decide +kernel, by decide +kernel, .inl ⟨by decide, rz⟩⟩⟩⟩
      tm_at "s"
      refine (A2.exN ea).put (by decide) g3 fun H10 k10 w10 A3 => ?_
      have W10 := w10 _ _ _ (W8.exN ea ta)
      try dsimp only
      tm_at "s"
      refine A3.sq ?_
      tm_at "s"
      refine s_hearMy (v1 := .str "chunks") (v2 := .int 5000) W10.tabs (fun E1 Ha Q' ea ta rz => ?_) (fun r4 Ha ea ta g4 => ?_)
      · tm_at "s"
        refine ⟨_, _, _, rfl, .inr ⟨10 ^ 30, rfl, by decide +kernel, by decide +kernel, .inr ⟨3, rfl, by unfold siz; decide, .inr ⟨1, rfl, by decide, by decide, .inl ⟨?_, rz⟩⟩⟩⟩⟩
        rw [show tapS (10 ^ 30) 3 1 = 0 by decide +kernel, tap0 (by decide +kernel) (by decide)]
        decide +kernel
      tm_at "s"
      refine (A3.exN ea).put (by decide) g4 fun H12 k12 w12 A4 => ?_
      have W12 := w12 _ _ _ (W10.exN ea ta)
      try dsimp only
      tm_at "s"
      refine s_new (Nat.le_of_lt (small1000 (by simp))) fun c1 K1 m1 f1 j1 => ?_
      tm_at "s"
      refine s_new (Nat.le_of_lt (small1000 (by simp))) fun c2 K2 m2 f2 j2 => ?_
      tm_at "s"
      refine s_repG j2 (by decide) (by decide) (show 1 * 4 ≤ sizeLine by decide +kernel) fun c3 K3 m3 f3 j3 => ?_
      rw [rep_one] at j3
      have j1' := f3 _ _ (f2 _ _ j1)
      have D3 : HdAt K3 c3 [manD, manD, manD, manD] := ⟨[c1, c1, c1, c1], j3, j1', j1', j1', j1', trivial⟩
      have f13 := f1.trans (f2.trans f3)
      have A6 : HdAt K3 hh [manD, manD, manD, manD] := A4.ex f13
      have dpp : ∀ t ∈ [manD, manD, manD, manD], DpAll K K3 t (fM t) := fun t ht => by
        simp only [List.mem_cons, List.not_mem_nil, or_false] at ht
        rcases ht with rfl | rfl | rfl | rfl <;> exact .cons (.str _) (.cons (.str _) (.cons (.int _) .nil))
      have shd : SeqAt.shaped (.list ([manD, manD, manD, manD].map fun t => .tuple (fM t))) = true := by decide +kernel
      refine .inr (s_neD (A6.dp dpp) (D3.dp dpp) shd shd ?_)
      rw [SeqAt.eqv_refl (.list ([manD, manD, manD, manD].map fun t => .tuple (fM t))) (SeqAt.canLay_of_shaped shd)]
      tm_at "s"
      have hS1 : tapS 12000 3 1 = 0 := by decide +kernel
      refine ⟨_, _, _, rfl, .inr ⟨12000, rfl, by decide, by decide, .inr ⟨3, rfl, by unfold siz; decide, .inr ⟨1, rfl, by decide, by decide, .inr ⟨4000, by decide, by rw [hS1, tap0 (by decide) (by decide)]; decide, fun q3 H13 e13 c13 => ?_⟩⟩⟩⟩⟩
      have l3 : (tapL 12000 3 (tapS 12000 3 1) 4000).length = 4000 := tap_len 4000 fun i hi => by rw [hS1, tap0 (by decide) (by decide)]; omega
      obtain ⟨d3, _, _, _, i3, _⟩ := id c13
      tm_at "s"
      refine ⟨q3, d3, _, rfl, i3, q3, _, rfl, c13, _, rfl, by omega, by rw [l3]; decide, ?_⟩
      rw [l3]
      tm_at "s"
      refine iteND (fun z => absurd rfl z) (fun _ => ?_)
      tm_at "s"
      refine s_mulI (mulL (by decide)) ?_
      tm_at "s"
      have hE : tapR (10 ^ 30) (2 * 10 ^ 29) (tapS (10 ^ 30) (2 * 10 ^ 29) 1) 9 = 0 := by decide +kernel
      refine ⟨_, _, _, rfl, .inr ⟨10 ^ 30, rfl, by decide +kernel, by decide +kernel, .inr ⟨2 * 10 ^ 29, rfl, by unfold siz; decide +kernel, .inr ⟨1, rfl, by decide, by decide +kernel, .inr ⟨9, by decide, hE, fun q4 H14 e14 c14 => ?_⟩⟩⟩⟩⟩
      have hsum := tap_sum (10 ^ 30) (2 * 10 ^ 29) (tapS (10 ^ 30) (2 * 10 ^ 29) 1) (by decide +kernel) 9
      rw [hE, Int.add_zero] at hsum
      have l4 : (tapL (10 ^ 30) (2 * 10 ^ 29) (tapS (10 ^ 30) (2 * 10 ^ 29) 1) 9).length = 9 := by decide +kernel
      obtain ⟨d4, _, _, _, i4, _⟩ := id c14
      try dsimp only
      tm_at "s"
      refine ⟨q4, C, d4, _, _, rfl, i4, T.c.cl, T.nT, rfl, ?_⟩
      tm_at "s"
      rw [hsum, decide_eq_true (show (10 ^ 30 : Int) = 10 ^ (30 : Int).toNat from rfl)]
      tm_at "s"
      refine ⟨q4, d4, _, rfl, i4, q4, _, rfl, c14, _, rfl, by omega, by rw [l4]; decide, ?_⟩
      rw [l4]
      tm_at "s"
      refine iteD (fun _ => ?_) (fun z => absurd rfl z)
      have hS5 : tapS 5000 1 1 = 0 := by decide +kernel
      tm_at "s"
      refine ⟨_, _, _, rfl, .inr ⟨5000, rfl, by decide, by decide, .inr ⟨1, rfl, by unfold siz; decide, .inr ⟨1, rfl, by decide, by decide, .inr ⟨5000, by decide, by rw [hS5, tap0 (by decide) (by decide)]; decide, fun q5 H15 e15 c15 => ?_⟩⟩⟩⟩⟩
      have l5 : (tapL 5000 1 (tapS 5000 1 1) 5000).length = 5000 := tap_len 5000 fun i hi => by rw [hS5, tap0 (by decide) (by decide)]; omega
      obtain ⟨d5, _, _, _, i5, _⟩ := id c15
      tm_at "s"
      refine ⟨q5, d5, _, rfl, i5, q5, _, rfl, c15, _, rfl, by omega, by rw [l5]; decide, ?_⟩
      rw [l5]
      tm_at "s"
      exact k H15
end
end K13
end
section
namespace K13
open PySem PySem.Spec PyProof.Rows L2 L3 LamX
abbrev s_BadSize___init__ : Stmt := inClass (topS 8) 0
theorem ns_BadSize : NdefX.NScope ["self", "value", "__class__"] ["self", "value"] ["__class__"] (defScope s_BadSize___init__) := NdefX.nscope_by (by decide +kernel)
theorem ok_BadSize {P : Program} {w : World} {K : PySem.W.Frag} {mg : Str → Option Value} {base : Heap} {C f cda cc : Addr} {kV doc pm ct oc : Value} {an od : Option Addr} {osl : Array (Option Value)}
    (lk : K.lookup f = some ⟨oc, od, .func (PySem.W.fnX "__init__" "BadSize.__init__" (defArgs s_BadSize___init__) (defBody s_BadSize___init__) (defScope s_BadSize___init__) [("__class__", cc)] .none kV doc pm an (.ref cda) ct), osl⟩) (hcd : PySem.W.codeIn K (.ref cda) "BadSize.__init__" = true)
    (T : SupF P K mg C f cda cc (defScope s_BadSize___init__)) (n1 : PySem.W.findIn K (.ref C) "value" = some none) :
    FnOk P w K mg base CX0 1 f (PySem.W.fnX "__init__" "BadSize.__init__" (defArgs s_BadSize___init__) (defBody s_BadSize___init__) (defScope s_BadSize___init__) [("__class__", cc)] .none kV doc pm an (.ref cda) ct) ["self", "value"] (spErr1 C "value") :=
  okErr1 (g1 := "value") (x := "value") rfl lk hcd T ns_BadSize rfl rfl (fun env _ => ⟨_, rfl⟩) (by decide) (by decide) n1 (fun env _ => rfl)
abbrev s_BadTotal___init__ : Stmt := inClass (topS 9) 0
theorem ns_BadTotal : NdefX.NScope ["self", "value", "__class__"] ["self", "value"] ["__class__"] (defScope s_BadTotal___init__) := NdefX.nscope_by (by decide +kernel)
theorem ok_BadTotal {P : Program} {w : World} {K : PySem.W.Frag} {mg : Str → Option Value} {base : Heap} {C f cda cc : Addr} {kV doc pm ct oc : Value} {an od : Option Addr} {osl : Array (Option Value)}
    (lk : K.lookup f = some ⟨oc, od, .func (PySem.W.fnX "__init__" "BadTotal.__init__" (defArgs s_BadTotal___init__) (defBody s_BadTotal___init__) (defScope s_BadTotal___init__) [("__class__", cc)] .none kV doc pm an (.ref cda) ct), osl⟩) (hcd : PySem.W.codeIn K (.ref cda) "BadTotal.__init__" = true)
    (T : SupF P K mg C f cda cc (defScope s_BadTotal___init__)) (n1 : PySem.W.findIn K (.ref C) "value" = some none) :
    FnOk P w K mg base CX0 1 f (PySem.W.fnX "__init__" "BadTotal.__init__" (defArgs s_BadTotal___init__) (defBody s_BadTotal___init__) (defScope s_BadTotal___init__) [("__class__", cc)] .none kV doc pm an (.ref cda) ct) ["self", "value"] (spErr1 C "value") :=
  okErr1 (g1 := "value") (x := "value") rfl lk hcd T ns_BadTotal rfl rfl (fun env _ => ⟨_, rfl⟩) (by decide) (by decide) n1 (fun env _ => rfl)
abbrev s_BadChunks___init__ : Stmt := inClass (topS 10) 0
abbrev s_TooMany___init__ : Stmt := inClass (topS 13) 0
theorem ns_TooMany : NdefX.NScope ["self", "what", "most", "__class__"] ["self", "what", "most"] ["__class__"] (defScope s_TooMany___init__) := NdefX.nscope_by (by decide +kernel)
theorem ok_TooMany {P : Program} {w : World} {K : PySem.W.Frag} {mg : Str → Option Value} {base : Heap} {C f cda cc : Addr} {kV doc pm ct oc : Value} {an od : Option Addr} {osl : Array (Option Value)}
    (lk : K.lookup f = some ⟨oc, od, .func (PySem.W.fnX "__init__" "TooMany.__init__" (defArgs s_TooMany___init__) (defBody s_TooMany___init__) (defScope s_TooMany___init__) [("__class__", cc)] .none kV doc pm an (.ref cda) ct), osl⟩) (hcd : PySem.W.codeIn K (.ref cda) "TooMany.__init__" = true)
    (T : SupF P K mg C f cda cc (defScope s_TooMany___init__)) (n1 : PySem.W.findIn K (.ref C) "what" = some none) (n2 : PySem.W.findIn K (.ref C) "most" = some none) :
    FnOk P w K mg base CX0 1 f (PySem.W.fnX "__init__" "TooMany.__init__" (defArgs s_TooMany___init__) (defBody s_TooMany___init__) (defScope s_TooMany___init__) [("__class__", cc)] .none kV doc pm an (.ref cda) ct) ["self", "what", "most"] (spErr2 C "what" "most") :=
  okErr2 (g1 := "what") (g2 := "most") (x := "what") (y := "most") rfl lk hcd T ns_TooMany rfl rfl (fun env _ => ⟨_, rfl⟩) (by decide) (by decide) (by decide) (by decide) n1 n2 (fun env _ => rfl) (fun env _ => rfl)
abbrev s_NoChunk___init__ : Stmt := inClass (topS 12) 0
abbrev s_BadText___init__ : Stmt := inClass (topS 11) 0
end K13
end
section
namespace K13
open PySem PySem.Spec PyProof.Rows L2 L3 LamX
theorem fnMk {P : Program} {w : World} {K : PySem.W.Frag} {mg : Str → Option Value} {base : Heap} {CX : CXT} {k : Nat} {x qual : Str} {st : Stmt} {f : Addr} {fd : FuncData} {ps : List Str} {sp : Sp} (F : Fun K x qual st f fd) (ok : FnG P w K mg base CX k f fd ps sp) (m : mg x = some (.ref f))
    (hb : ∀ (kV doc pm : Value) (an : Option Addr) (cdv ct : Value) (us : List Value), us.length = ps.length → bindArgs (PySem.W.fnOf x qual (defArgs st) (defBody st) (defScope st) .none kV doc pm an cdv ct) ⟨us, []⟩ = pure (ps.zip us))
    (hk : ∀ (kV doc pm : Value) (an : Option Addr) (cdv ct : Value) (us : List Value), us.length = ps.length → bindArgs (PySem.W.fnOf x qual (defArgs st) (defBody st) (defScope st) .none kV doc pm an cdv ct) ⟨[], ps.zip us⟩ = pure (ps.zip us)) : Fn P w K mg base CX k x ps sp := by
  have kp := F.kp
  obtain ⟨oc, od, kV, doc, pm, an, cd, ct, sl, rfl, lk, hcd⟩ := F.ex
  exact ⟨⟨f, _, ok, m, kp, .all (hb kV doc pm an cd ct), fun s ws _ hl => .of_eq (hk kV doc pm an cd ct ws hl)⟩⟩
theorem bMk {K : PySem.W.Frag} {x qual : Str} {st : Stmt} {f : Addr} {fd : FuncData} {ps : List Str} (F : Fun K x qual st f fd)
    (hb : ∀ (kV doc pm : Value) (an : Option Addr) (cdv ct : Value) (us : List Value), us.length = ps.length → bindArgs (PySem.W.fnOf x qual (defArgs st) (defBody st) (defScope st) .none kV doc pm an cdv ct) ⟨us, []⟩ = pure (ps.zip us)) : L2.Binds K fd ps [] := by
  obtain ⟨oc, od, kV, doc, pm, an, cd, ct, sl, rfl, lk, hcd⟩ := F.ex
  exact .all (hb kV doc pm an cd ct)
theorem bkMk {K : PySem.W.Frag} {x qual : Str} {st : Stmt} {f : Addr} {fd : FuncData} {ps : List Str} (F : Fun K x qual st f fd)
    (hk : ∀ (kV doc pm : Value) (an : Option Addr) (cdv ct : Value) (us : List Value), us.length = ps.length → bindArgs (PySem.W.fnOf x qual (defArgs st) (defBody st) (defScope st) .none kV doc pm an cdv ct) ⟨[], ps.zip us⟩ = pure (ps.zip us)) : ∀ (s : Shared) (ws : List Value), K.In s.heap → ws.length = ps.length → BindsTo s fd ⟨[], ps.zip ws⟩ (ps.zip ws) := by
  obtain ⟨oc, od, kV, doc, pm, an, cd, ct, sl, rfl, lk, hcd⟩ := F.ex
  exact fun s ws _ hl => .of_eq (hk kV doc pm an cd ct ws hl)
theorem bkrMk {K : PySem.W.Frag} {x qual : Str} {st : Stmt} {f : Addr} {fd : FuncData} {ps : List Str} (F : Fun K x qual st f fd)
    (hk : ∀ (kV doc pm : Value) (an : Option Addr) (cdv ct : Value) (us : List Value), us.length = ps.length → bindArgs (PySem.W.fnOf x qual (defArgs st) (defBody st) (defScope st) .none kV doc pm an cdv ct) ⟨[], ps.reverse.zip us⟩ = pure (ps.zip us.reverse)) : ∀ (s : Shared) (ws : List Value), K.In s.heap → ws.length = ps.length → BindsTo s fd ⟨[], ps.reverse.zip ws⟩ (ps.zip ws.reverse) := by
  obtain ⟨oc, od, kV, doc, pm, an, cd, ct, sl, rfl, lk, hcd⟩ := F.ex
  exact fun s ws _ hl => .of_eq (hk kV doc pm an cd ct ws hl)
theorem tab0 {H : Hp} {Pt : Addr} {q : Str} (h : H Pt = some (.tbl #[])) : TabS H Pt q := ⟨#[], h, trivial, fun pos cv hc => nomatch hc⟩
theorem tt_uniq : ∀ {ps : List (Addr × Str)} (h : (ps.map (·.1)).Nodup) {p q : Addr × Str} (hp : p ∈ ps) (hq : q ∈ ps) (e : p.1 = q.1), p.2 = q.2
  | [], _, _, _, hp, _, _ => nomatch hp
  | a :: r, h, p, q, hp, hq, e => by
    rw [List.map_cons, List.nodup_cons] at h
    rcases List.mem_cons.mp hp with e1 | hp1
    · rcases List.mem_cons.mp hq with e2 | hq1
      · rw [e1, e2]
      · exact (h.1 (List.mem_map.mpr ⟨q, hq1, by rw [← e1, e]⟩)).elim
    · rcases List.mem_cons.mp hq with e2 | hq1
      · exact (h.1 (List.mem_map.mpr ⟨p, hp1, by rw [← e2, e]⟩)).elim
      · exact tt_uniq h.2 hp1 hq1 e
theorem all_mk {l : PySem.W.OpenLaw} {w : World} {K : PySem.W.Frag} {h : Heap} {mg : Str → Option Value} {fa C CB CC CM CL CT CN CW ct0 Pt ctt1 Pt1 ctt2 Pt2 : Addr} (X : K.In h) (G : h.Ns mainGlobals mg) (hfa : mg "law" = some (.ref fa))
    {f1 : Addr} {od1 an1 : Option Addr} {sl1 : Array (Option Value)} {oc1 kV1 dc1 pm1 cd1 ct1 : Value}
    {f2 : Addr} {od2 an2 : Option Addr} {sl2 : Array (Option Value)} {oc2 kV2 dc2 pm2 cd2 ct2 : Value}
    {f3 : Addr} {od3 an3 : Option Addr} {sl3 : Array (Option Value)} {oc3 kV3 dc3 pm3 cd3 ct3 : Value}
    {f4 : Addr} {od4 an4 : Option Addr} {sl4 : Array (Option Value)} {oc4 kV4 dc4 pm4 cd4 ct4 : Value}
    {f5 : Addr} {od5 an5 : Option Addr} {sl5 : Array (Option Value)} {oc5 kV5 dc5 pm5 cd5 ct5 : Value}
    {f6 : Addr} {od6 an6 : Option Addr} {sl6 : Array (Option Value)} {oc6 kV6 dc6 pm6 cd6 ct6 : Value}
    {f7 : Addr} {od7 an7 : Option Addr} {sl7 : Array (Option Value)} {oc7 kV7 dc7 pm7 cd7 ct7 : Value}
    {f8 : Addr} {od8 an8 : Option Addr} {sl8 : Array (Option Value)} {oc8 kV8 dc8 pm8 cd8 ct8 : Value}
    {f9 : Addr} {od9 an9 : Option Addr} {sl9 : Array (Option Value)} {oc9 kV9 dc9 pm9 cd9 ct9 : Value}
    {f10 : Addr} {od10 an10 : Option Addr} {sl10 : Array (Option Value)} {oc10 kV10 dc10 pm10 cd10 ct10 : Value}
    {f11 : Addr} {od11 an11 : Option Addr} {sl11 : Array (Option Value)} {oc11 kV11 dc11 pm11 cd11 ct11 : Value}
    {f12 : Addr} {od12 an12 : Option Addr} {sl12 : Array (Option Value)} {oc12 kV12 dc12 pm12 cd12 ct12 : Value}
    {f13 : Addr} {od13 an13 : Option Addr} {sl13 : Array (Option Value)} {oc13 kV13 dc13 pm13 cd13 ct13 : Value}
    {f14 : Addr} {od14 an14 : Option Addr} {sl14 : Array (Option Value)} {oc14 kV14 dc14 pm14 cd14 ct14 : Value}
    {f15 : Addr} {od15 an15 : Option Addr} {sl15 : Array (Option Value)} {oc15 kV15 dc15 pm15 ct15 : Value}
    {f16 : Addr} {od16 an16 : Option Addr} {sl16 : Array (Option Value)} {oc16 kV16 dc16 pm16 cd16 ct16 : Value}
    {f17 : Addr} {od17 an17 : Option Addr} {sl17 : Array (Option Value)} {oc17 kV17 dc17 pm17 ct17 : Value}
    {f18 : Addr} {od18 an18 : Option Addr} {sl18 : Array (Option Value)} {oc18 kV18 dc18 pm18 ct18 : Value}
    {g_C___init__ : Addr} {od_C___init__ an_C___init__ : Option Addr} {sl_C___init__ : Array (Option Value)} {oc_C___init__ kV_C___init__ dc_C___init__ pm_C___init__ cd_C___init__ ct_C___init__ : Value}
    {g_C___eq__ : Addr} {od_C___eq__ an_C___eq__ : Option Addr} {sl_C___eq__ : Array (Option Value)} {oc_C___eq__ kV_C___eq__ dc_C___eq__ pm_C___eq__ cd_C___eq__ ct_C___eq__ : Value}
    {g_C___len__ : Addr} {od_C___len__ an_C___len__ : Option Addr} {sl_C___len__ : Array (Option Value)} {oc_C___len__ kV_C___len__ dc_C___len__ pm_C___len__ cd_C___len__ ct_C___len__ : Value}
    {p_C_even : Addr} {rest_C_even : List Value}
    {g_C_even : Addr} {od_C_even an_C_even : Option Addr} {sl_C_even : Array (Option Value)} {oc_C_even kV_C_even dc_C_even pm_C_even cd_C_even ct_C_even : Value}
    {p_C_shared : Addr} {rest_C_shared : List Value}
    {g_C_shared : Addr} {od_C_shared an_C_shared : Option Addr} {sl_C_shared : Array (Option Value)} {oc_C_shared kV_C_shared dc_C_shared pm_C_shared cd_C_shared ct_C_shared : Value}
    {p_C_tapered : Addr} {rest_C_tapered : List Value}
    {g_C_tapered : Addr} {od_C_tapered an_C_tapered : Option Addr} {sl_C_tapered : Array (Option Value)} {oc_C_tapered kV_C_tapered dc_C_tapered pm_C_tapered cd_C_tapered ct_C_tapered : Value}
    {fZB ccZB cdZB : Addr} {odZB anZB cldZB cddZB : Option Addr} {slZB cslZB ccsZB : Array (Option Value)} {ocZB kVZB dcZB pmZB ctZB clZB cclZB : Value} {vsZB : Array Value} {fileZB : Str} {tfZB : Tok}
    {fZT ccZT cdZT : Addr} {odZT anZT cldZT cddZT : Option Addr} {slZT cslZT ccsZT : Array (Option Value)} {ocZT kVZT dcZT pmZT ctZT clZT cclZT : Value} {vsZT : Array Value} {fileZT : Str} {tfZT : Tok}
    {fZC ccZC cdZC : Addr} {odZC anZC cldZC cddZC : Option Addr} {slZC cslZC ccsZC : Array (Option Value)} {ocZC kVZC dcZC pmZC ctZC clZC cclZC : Value} {vsZC : Array Value} {fileZC : Str} {tfZC : Tok}
    {fZM ccZM cdZM : Addr} {odZM anZM cldZM cddZM : Option Addr} {slZM cslZM ccsZM : Array (Option Value)} {ocZM kVZM dcZM pmZM ctZM clZM cclZM : Value} {vsZM : Array Value} {fileZM : Str} {tfZM : Tok}
    {fZN ccZN cdZN : Addr} {odZN anZN cldZN cddZN : Option Addr} {slZN cslZN ccsZN : Array (Option Value)} {ocZN kVZN dcZN pmZN ctZN clZN cclZN : Value} {vsZN : Array Value} {fileZN : Str} {tfZN : Tok}
    {fZW ccZW cdZW : Addr} {odZW anZW cldZW cddZW : Option Addr} {slZW cslZW ccsZW : Array (Option Value)} {ocZW kVZW dcZW pmZW ctZW clZW cclZW : Value} {vsZW : Array Value} {fileZW : Str} {tfZW : Tok}
    {tMS tMC tMI tMF : Tok}
    (a1 : PySem.W.nsIn K mainGlobals "is_integer" = some (some (.ref f1)))
    (l1 : K.lookup f1 = some ⟨oc1, od1, .func (PySem.W.fnOf "is_integer" "is_integer" (defArgs s_is_integer) (defBody s_is_integer) (defScope s_is_integer) .none kV1 dc1 pm1 an1 cd1 ct1), sl1⟩)
    (c1 : PySem.W.codeIn K cd1 "is_integer" = true)
    (k1 : PySem.W.keepIn K (.ref f1) = true)
    (a2 : PySem.W.nsIn K mainGlobals "is_within" = some (some (.ref f2)))
    (l2 : K.lookup f2 = some ⟨oc2, od2, .func (PySem.W.fnOf "is_within" "is_within" (defArgs s_is_within) (defBody s_is_within) (defScope s_is_within) .none kV2 dc2 pm2 an2 cd2 ct2), sl2⟩)
    (c2 : PySem.W.codeIn K cd2 "is_within" = true)
    (k2 : PySem.W.keepIn K (.ref f2) = true)
    (a3 : PySem.W.nsIn K mainGlobals "is_size" = some (some (.ref f3)))
    (l3 : K.lookup f3 = some ⟨oc3, od3, .func (PySem.W.fnOf "is_size" "is_size" (defArgs s_is_size) (defBody s_is_size) (defScope s_is_size) .none kV3 dc3 pm3 an3 cd3 ct3), sl3⟩)
    (c3 : PySem.W.codeIn K cd3 "is_size" = true)
    (k3 : PySem.W.keepIn K (.ref f3) = true)
    (a4 : PySem.W.nsIn K mainGlobals "need_size" = some (some (.ref f4)))
    (l4 : K.lookup f4 = some ⟨oc4, od4, .func (PySem.W.fnOf "need_size" "need_size" (defArgs s_need_size) (defBody s_need_size) (defScope s_need_size) .none kV4 dc4 pm4 an4 cd4 ct4), sl4⟩)
    (c4 : PySem.W.codeIn K cd4 "need_size" = true)
    (k4 : PySem.W.keepIn K (.ref f4) = true)
    (a5 : PySem.W.nsIn K mainGlobals "need_few" = some (some (.ref f5)))
    (l5 : K.lookup f5 = some ⟨oc5, od5, .func (PySem.W.fnOf "need_few" "need_few" (defArgs s_need_few) (defBody s_need_few) (defScope s_need_few) .none kV5 dc5 pm5 an5 cd5 ct5), sl5⟩)
    (c5 : PySem.W.codeIn K cd5 "need_few" = true)
    (k5 : PySem.W.keepIn K (.ref f5) = true)
    (a6 : PySem.W.nsIn K mainGlobals "need_total" = some (some (.ref f6)))
    (l6 : K.lookup f6 = some ⟨oc6, od6, .func (PySem.W.fnOf "need_total" "need_total" (defArgs s_need_total) (defBody s_need_total) (defScope s_need_total) .none kV6 dc6 pm6 an6 cd6 ct6), sl6⟩)
    (c6 : PySem.W.codeIn K cd6 "need_total" = true)
    (k6 : PySem.W.keepIn K (.ref f6) = true)
    (a7 : PySem.W.nsIn K mainGlobals "rounded_up" = some (some (.ref f7)))
    (l7 : K.lookup f7 = some ⟨oc7, od7, .func (PySem.W.fnOf "rounded_up" "rounded_up" (defArgs s_rounded_up) (defBody s_rounded_up) (defScope s_rounded_up) .none kV7 dc7 pm7 an7 cd7 ct7), sl7⟩)
    (c7 : PySem.W.codeIn K cd7 "rounded_up" = true)
    (k7 : PySem.W.keepIn K (.ref f7) = true)
    (a8 : PySem.W.nsIn K mainGlobals "ends_of" = some (some (.ref f8)))
    (l8 : K.lookup f8 = some ⟨oc8, od8, .func (PySem.W.fnOf "ends_of" "ends_of" (defArgs s_ends_of) (defBody s_ends_of) (defScope s_ends_of) .none kV8 dc8 pm8 an8 cd8 ct8), sl8⟩)
    (c8 : PySem.W.codeIn K cd8 "ends_of" = true)
    (k8 : PySem.W.keepIn K (.ref f8) = true)
    (a9 : PySem.W.nsIn K mainGlobals "_law_heard" = some (some (.ref f9)))
    (l9 : K.lookup f9 = some ⟨oc9, od9, .func (PySem.W.fnOf "_law_heard" "_law_heard" (defArgs s__law_heard) (defBody s__law_heard) (defScope s__law_heard) .none kV9 dc9 pm9 an9 cd9 ct9), sl9⟩)
    (c9 : PySem.W.codeIn K cd9 "_law_heard" = true)
    (k9 : PySem.W.keepIn K (.ref f9) = true)
    (a10 : PySem.W.nsIn K mainGlobals "_law_pen" = some (some (.ref f10)))
    (l10 : K.lookup f10 = some ⟨oc10, od10, .func (PySem.W.fnOf "_law_pen" "_law_pen" (defArgs s__law_pen) (defBody s__law_pen) (defScope s__law_pen) .none kV10 dc10 pm10 an10 cd10 ct10), sl10⟩)
    (c10 : PySem.W.codeIn K cd10 "_law_pen" = true)
    (k10 : PySem.W.keepIn K (.ref f10) = true)
    (a11 : PySem.W.nsIn K mainGlobals "_law_draw" = some (some (.ref f11)))
    (l11 : K.lookup f11 = some ⟨oc11, od11, .func (PySem.W.fnOf "_law_draw" "_law_draw" (defArgs s__law_draw) (defBody s__law_draw) (defScope s__law_draw) .none kV11 dc11 pm11 an11 cd11 ct11), sl11⟩)
    (c11 : PySem.W.codeIn K cd11 "_law_draw" = true)
    (k11 : PySem.W.keepIn K (.ref f11) = true)
    (a12 : PySem.W.nsIn K mainGlobals "_law_pick" = some (some (.ref f12)))
    (l12 : K.lookup f12 = some ⟨oc12, od12, .func (PySem.W.fnOf "_law_pick" "_law_pick" (defArgs s__law_pick) (defBody s__law_pick) (defScope s__law_pick) .none kV12 dc12 pm12 an12 cd12 ct12), sl12⟩)
    (c12 : PySem.W.codeIn K cd12 "_law_pick" = true)
    (k12 : PySem.W.keepIn K (.ref f12) = true)
    (a13 : PySem.W.nsIn K mainGlobals "_law_even" = some (some (.ref f13)))
    (l13 : K.lookup f13 = some ⟨oc13, od13, .func (PySem.W.fnOf "_law_even" "_law_even" (defArgs s__law_even) (defBody s__law_even) (defScope s__law_even) .none kV13 dc13 pm13 an13 cd13 ct13), sl13⟩)
    (c13 : PySem.W.codeIn K cd13 "_law_even" = true)
    (k13 : PySem.W.keepIn K (.ref f13) = true)
    (a14 : PySem.W.nsIn K mainGlobals "_law_tapered" = some (some (.ref f14)))
    (l14 : K.lookup f14 = some ⟨oc14, od14, .func (PySem.W.fnOf "_law_tapered" "_law_tapered" (defArgs s__law_tapered) (defBody s__law_tapered) (defScope s__law_tapered) .none kV14 dc14 pm14 an14 cd14 ct14), sl14⟩)
    (c14 : PySem.W.codeIn K cd14 "_law_tapered" = true)
    (k14 : PySem.W.keepIn K (.ref f14) = true)
    (a15 : PySem.W.nsIn K mainGlobals "_law_even_right" = some (some (.ref f15)))
    (l15 : K.lookup f15 = some ⟨oc15, od15, .func (PySem.W.fnOf "_law_even_right" "_law_even_right" (defArgs s__law_even_right) (defBody s__law_even_right) (defScope s__law_even_right) .none kV15 dc15 pm15 an15 (.ref ct0) ct15), sl15⟩)
    (c15 : PySem.W.codeIn K (.ref ct0) "_law_even_right" = true)
    (k15 : PySem.W.keepIn K (.ref f15) = true)
    (a16 : PySem.W.nsIn K mainGlobals "_law_tapered_right" = some (some (.ref f16)))
    (l16 : K.lookup f16 = some ⟨oc16, od16, .func (PySem.W.fnOf "_law_tapered_right" "_law_tapered_right" (defArgs s__law_tapered_right) (defBody s__law_tapered_right) (defScope s__law_tapered_right) .none kV16 dc16 pm16 an16 cd16 ct16), sl16⟩)
    (c16 : PySem.W.codeIn K cd16 "_law_tapered_right" = true)
    (k16 : PySem.W.keepIn K (.ref f16) = true)
    (a17 : PySem.W.nsIn K mainGlobals "_law_refused_right" = some (some (.ref f17)))
    (l17 : K.lookup f17 = some ⟨oc17, od17, .func (PySem.W.fnOf "_law_refused_right" "_law_refused_right" (defArgs s__law_refused_right) (defBody s__law_refused_right) (defScope s__law_refused_right) .none kV17 dc17 pm17 an17 (.ref ctt1) ct17), sl17⟩)
    (c17 : PySem.W.codeIn K (.ref ctt1) "_law_refused_right" = true)
    (k17 : PySem.W.keepIn K (.ref f17) = true)
    (a18 : PySem.W.nsIn K mainGlobals "law" = some (some (.ref f18)))
    (l18 : K.lookup f18 = some ⟨oc18, od18, .func (PySem.W.fnOf "law" "law" (defArgs s_law) (defBody s_law) (defScope s_law) .none kV18 dc18 pm18 an18 (.ref ctt2) ct18), sl18⟩)
    (c18 : PySem.W.codeIn K (.ref ctt2) "law" = true)
    (k18 : PySem.W.keepIn K (.ref f18) = true)
    (a_C : PySem.W.nsIn K mainGlobals "Chunks" = some (some (.ref C)))
    (a_C___init__ : PySem.W.findIn K (.ref C) "__init__" = some (some (.ref g_C___init__)))
    (l_C___init__ : K.lookup g_C___init__ = some ⟨oc_C___init__, od_C___init__, .func (PySem.W.fnOf "__init__" "Chunks.__init__" (defArgs s_Chunks___init__) (defBody s_Chunks___init__) (defScope s_Chunks___init__) .none kV_C___init__ dc_C___init__ pm_C___init__ an_C___init__ cd_C___init__ ct_C___init__), sl_C___init__⟩)
    (c_C___init__ : PySem.W.codeIn K cd_C___init__ "Chunks.__init__" = true)
    (k_C___init__ : PySem.W.keepIn K (.ref g_C___init__) = true)
    (i_C___init__ : PySem.W.isFn K (.ref g_C___init__) = true)
    (a_C___eq__ : PySem.W.findIn K (.ref C) "__eq__" = some (some (.ref g_C___eq__)))
    (l_C___eq__ : K.lookup g_C___eq__ = some ⟨oc_C___eq__, od_C___eq__, .func (PySem.W.fnOf "__eq__" "Chunks.__eq__" (defArgs s_Chunks___eq__) (defBody s_Chunks___eq__) (defScope s_Chunks___eq__) .none kV_C___eq__ dc_C___eq__ pm_C___eq__ an_C___eq__ cd_C___eq__ ct_C___eq__), sl_C___eq__⟩)
    (c_C___eq__ : PySem.W.codeIn K cd_C___eq__ "Chunks.__eq__" = true)
    (k_C___eq__ : PySem.W.keepIn K (.ref g_C___eq__) = true)
    (i_C___eq__ : PySem.W.isFn K (.ref g_C___eq__) = true)
    (a_C___len__ : PySem.W.findIn K (.ref C) "__len__" = some (some (.ref g_C___len__)))
    (l_C___len__ : K.lookup g_C___len__ = some ⟨oc_C___len__, od_C___len__, .func (PySem.W.fnOf "__len__" "Chunks.__len__" (defArgs s_Chunks___len__) (defBody s_Chunks___len__) (defScope s_Chunks___len__) .none kV_C___len__ dc_C___len__ pm_C___len__ an_C___len__ cd_C___len__ ct_C___len__), sl_C___len__⟩)
    (c_C___len__ : PySem.W.codeIn K cd_C___len__ "Chunks.__len__" = true)
    (k_C___len__ : PySem.W.keepIn K (.ref g_C___len__) = true)
    (i_C___len__ : PySem.W.isFn K (.ref g_C___len__) = true)
    (mk_C : PySem.W.makesIn K C = true)
    (pg_C : PySem.W.plainGet K C Str.empty = true)
    (hd_C : PySem.W.hasDictIn K C = true)
    (po_C : PySem.W.plainOver K C = true)
    (sa_C : PySem.W.findIn K (.ref C) "__setattr__" = some (some (.builtin "object.__setattr__")))
    (kc_C : PySem.W.keepIn K (.ref C) = true)
    (ya_C : PySem.W.findIn K (.ref C) "__class__" = some (some (.builtin "object.__class__")))
    (yb : PySem.W.specialIn K (.builtin "object.__class__") "__get__" = some (some (.builtin "getset_descriptor.__get__")))
    (yc : PySem.W.takesIn K (.builtin "object.__class__") = some true)
    (yd_C : PySem.W.mroIn K C (.type "object") = some true)
    (yk_C : PySem.W.kitOne K (.ref C) (.ref C) = some true)
    (n_C_sizes : PySem.W.findIn K (.ref C) "sizes" = some none)
    (n_C_ends : PySem.W.findIn K (.ref C) "ends" = some none)
    (n_C_total : PySem.W.findIn K (.ref C) "total" = some none)
    (n_C_rests : PySem.W.findIn K (.ref C) "rests" = some none)
    (cf1_C : (numTys.all fun T => PySem.W.notFirst K C (.type T)) = true)
    (cf2_C : PySem.W.notFirst K C (.ref C) = true)
    (cf3_C : (numTys.all fun T => decide (PySem.W.subIn K (.ref C) (.type T) = some false)) = true)
    (cf5_C : PySem.W.findIn K (.ref C) "__ne__" = some (some (.builtin "object.__ne__")))
    (sr_C : PySem.W.readsIn K C (.type "type") = true)
    (sg_C : PySem.W.specialIn K (.ref C) "__getattribute__" = some (some (.builtin "type.__getattribute__")))
    (sf_C_even : PySem.W.findCls K (.ref C) (.type "type") "even" = some (.get (.builtin "staticmethod.__get__") (.ref p_C_even) .none (.ref C)))
    (sc_C_even : PySem.W.recIn K p_C_even "staticmethod" = some (.ref g_C_even :: rest_C_even))
    (l_C_even : K.lookup g_C_even = some ⟨oc_C_even, od_C_even, .func (PySem.W.fnOf "even" "Chunks.even" (defArgs s_Chunks_even) (defBody s_Chunks_even) (defScope s_Chunks_even) .none kV_C_even dc_C_even pm_C_even an_C_even cd_C_even ct_C_even), sl_C_even⟩)
    (c_C_even : PySem.W.codeIn K cd_C_even "Chunks.even" = true)
    (k_C_even : PySem.W.keepIn K (.ref g_C_even) = true)
    (sf_C_shared : PySem.W.findCls K (.ref C) (.type "type") "shared" = some (.get (.builtin "staticmethod.__get__") (.ref p_C_shared) .none (.ref C)))
    (sc_C_shared : PySem.W.recIn K p_C_shared "staticmethod" = some (.ref g_C_shared :: rest_C_shared))
    (l_C_shared : K.lookup g_C_shared = some ⟨oc_C_shared, od_C_shared, .func (PySem.W.fnOf "shared" "Chunks.shared" (defArgs s_Chunks_shared) (defBody s_Chunks_shared) (defScope s_Chunks_shared) .none kV_C_shared dc_C_shared pm_C_shared an_C_shared cd_C_shared ct_C_shared), sl_C_shared⟩)
    (c_C_shared : PySem.W.codeIn K cd_C_shared "Chunks.shared" = true)
    (k_C_shared : PySem.W.keepIn K (.ref g_C_shared) = true)
    (sf_C_tapered : PySem.W.findCls K (.ref C) (.type "type") "tapered" = some (.get (.builtin "staticmethod.__get__") (.ref p_C_tapered) .none (.ref C)))
    (sc_C_tapered : PySem.W.recIn K p_C_tapered "staticmethod" = some (.ref g_C_tapered :: rest_C_tapered))
    (l_C_tapered : K.lookup g_C_tapered = some ⟨oc_C_tapered, od_C_tapered, .func (PySem.W.fnOf "tapered" "Chunks.tapered" (defArgs s_Chunks_tapered) (defBody s_Chunks_tapered) (defScope s_Chunks_tapered) .none kV_C_tapered dc_C_tapered pm_C_tapered an_C_tapered cd_C_tapered ct_C_tapered), sl_C_tapered⟩)
    (c_C_tapered : PySem.W.codeIn K cd_C_tapered "Chunks.tapered" = true)
    (k_C_tapered : PySem.W.keepIn K (.ref g_C_tapered) = true)
    (a_CL : PySem.W.nsIn K mainGlobals "LateError" = some (some (.ref CL)))
    (aZB : PySem.W.nsIn K mainGlobals "BadSize" = some (some (.ref CB)))
    (iZB : PySem.W.findIn K (.ref CB) "__init__" = some (some (.ref fZB)))
    (tZB : PySem.W.typeIn K (.ref fZB) = some (.type "function"))
    (lZB : K.lookup fZB = some ⟨ocZB, odZB, .func (PySem.W.fnX "__init__" "BadSize.__init__" (defArgs s_BadSize___init__) (defBody s_BadSize___init__) (defScope s_BadSize___init__) [("__class__", ccZB)] .none kVZB dcZB pmZB anZB (.ref cdZB) ctZB), slZB⟩)
    (cZB : PySem.W.codeIn K (.ref cdZB) "BadSize.__init__" = true)
    (eZB : ∃ nm q N bs bm sn sub ab col dd k0 k1 k2 k3 k5, K.lookup CB = some (excClassObj nm q CB N bs bm true sn sub ab col dd k0 k1 k2 k3 k5 "ValueError.__new__") ∧ PySem.HandSPX.refsVE bm = true)
    (sZB : PySem.W.findIn K (.ref CB) "__setattr__" = some (some (.builtin "object.__setattr__")))
    (xZB : PySem.W.subIn K (.ref CB) (.type "BaseException") = some true)
    (yZB : PySem.W.typeIn K (.ref CB) = some (.type "type"))
    (kZB : PySem.W.keepIn K (.ref CB) = true)
    (qZB : K.lookup ccZB = some ⟨clZB, cldZB, .cell (some (.ref CB)), cslZB⟩)
    (uZB : K.lookup cdZB = some ⟨cclZB, cddZB, .fields vsZB, ccsZB⟩)
    (vZB : vsZB[2]? = some (.str fileZB tfZB))
    (wZB : ((l.prog.main.file : Str) == fileZB) = true)
    (mZB : PySem.W.mroIn K CB (.ref CB) = some true)
    (pZB : PySem.W.ks_superIn K CB CB "__init__" = some (some (.builtin "ValueError.__init__")))
    (bZB : PySem.W.subIn K (.ref CB) (.type "ValueError") = some true)
    (zS : PySem.W.nsIn K mainGlobals "super" = some none)
    (tS : (l.prog.main.scope.names.lookup ("super" : Str)).isSome = false)
    (oB : PySem.W.nsIn K cStatics "thirdparty.any" = some none)
    (nZB_value : PySem.W.findIn K (.ref CB) "value" = some none)
    (gZB : PySem.W.findIn K (.ref CB) "__getattribute__" = some (some (.builtin "BaseException.__getattribute__")))
    (hZB : PySem.W.findIn K (.ref CB) "__getattr__" = some none)
    (dZB : PySem.W.hasDictIn K CB = true)
    (jZB : PySem.W.findIn K (.ref CB) "__class__" = some (some (.builtin "object.__class__")))
    (rZB : PySem.W.mroIn K CB (.type "object") = some true)
    (k1ZB : PySem.W.kitOne K (.ref CB) (.ref CB) = some true)
    (emZB : PySem.W.exmOne K (.ref CB) (.ref CL) = some true)
    (kVZB : PySem.W.kitOne K (.ref CB) (.type "ValueError") = some true)
    (aZT : PySem.W.nsIn K mainGlobals "BadTotal" = some (some (.ref CT)))
    (iZT : PySem.W.findIn K (.ref CT) "__init__" = some (some (.ref fZT)))
    (tZT : PySem.W.typeIn K (.ref fZT) = some (.type "function"))
    (lZT : K.lookup fZT = some ⟨ocZT, odZT, .func (PySem.W.fnX "__init__" "BadTotal.__init__" (defArgs s_BadTotal___init__) (defBody s_BadTotal___init__) (defScope s_BadTotal___init__) [("__class__", ccZT)] .none kVZT dcZT pmZT anZT (.ref cdZT) ctZT), slZT⟩)
    (cZT : PySem.W.codeIn K (.ref cdZT) "BadTotal.__init__" = true)
    (eZT : ∃ nm q N bs bm sn sub ab col dd k0 k1 k2 k3 k5, K.lookup CT = some (excClassObj nm q CT N bs bm true sn sub ab col dd k0 k1 k2 k3 k5 "ValueError.__new__") ∧ PySem.HandSPX.refsVE bm = true)
    (sZT : PySem.W.findIn K (.ref CT) "__setattr__" = some (some (.builtin "object.__setattr__")))
    (xZT : PySem.W.subIn K (.ref CT) (.type "BaseException") = some true)
    (yZT : PySem.W.typeIn K (.ref CT) = some (.type "type"))
    (kZT : PySem.W.keepIn K (.ref CT) = true)
    (qZT : K.lookup ccZT = some ⟨clZT, cldZT, .cell (some (.ref CT)), cslZT⟩)
    (uZT : K.lookup cdZT = some ⟨cclZT, cddZT, .fields vsZT, ccsZT⟩)
    (vZT : vsZT[2]? = some (.str fileZT tfZT))
    (wZT : ((l.prog.main.file : Str) == fileZT) = true)
    (mZT : PySem.W.mroIn K CT (.ref CT) = some true)
    (pZT : PySem.W.ks_superIn K CT CT "__init__" = some (some (.builtin "ValueError.__init__")))
    (bZT : PySem.W.subIn K (.ref CT) (.type "ValueError") = some true)
    (nZT_value : PySem.W.findIn K (.ref CT) "value" = some none)
    (gZT : PySem.W.findIn K (.ref CT) "__getattribute__" = some (some (.builtin "BaseException.__getattribute__")))
    (hZT : PySem.W.findIn K (.ref CT) "__getattr__" = some none)
    (dZT : PySem.W.hasDictIn K CT = true)
    (jZT : PySem.W.findIn K (.ref CT) "__class__" = some (some (.builtin "object.__class__")))
    (rZT : PySem.W.mroIn K CT (.type "object") = some true)
    (k1ZT : PySem.W.kitOne K (.ref CT) (.ref CT) = some true)
    (emZT : PySem.W.exmOne K (.ref CT) (.ref CL) = some true)
    (kVZT : PySem.W.kitOne K (.ref CT) (.type "ValueError") = some true)
    (aZC : PySem.W.nsIn K mainGlobals "BadChunks" = some (some (.ref CC)))
    (iZC : PySem.W.findIn K (.ref CC) "__init__" = some (some (.ref fZC)))
    (tZC : PySem.W.typeIn K (.ref fZC) = some (.type "function"))
    (lZC : K.lookup fZC = some ⟨ocZC, odZC, .func (PySem.W.fnX "__init__" "BadChunks.__init__" (defArgs s_BadChunks___init__) (defBody s_BadChunks___init__) (defScope s_BadChunks___init__) [("__class__", ccZC)] .none kVZC dcZC pmZC anZC (.ref cdZC) ctZC), slZC⟩)
    (cZC : PySem.W.codeIn K (.ref cdZC) "BadChunks.__init__" = true)
    (eZC : ∃ nm q N bs bm sn sub ab col dd k0 k1 k2 k3 k5, K.lookup CC = some (excClassObj nm q CC N bs bm true sn sub ab col dd k0 k1 k2 k3 k5 "ValueError.__new__") ∧ PySem.HandSPX.refsVE bm = true)
    (sZC : PySem.W.findIn K (.ref CC) "__setattr__" = some (some (.builtin "object.__setattr__")))
    (xZC : PySem.W.subIn K (.ref CC) (.type "BaseException") = some true)
    (yZC : PySem.W.typeIn K (.ref CC) = some (.type "type"))
    (kZC : PySem.W.keepIn K (.ref CC) = true)
    (qZC : K.lookup ccZC = some ⟨clZC, cldZC, .cell (some (.ref CC)), cslZC⟩)
    (uZC : K.lookup cdZC = some ⟨cclZC, cddZC, .fields vsZC, ccsZC⟩)
    (vZC : vsZC[2]? = some (.str fileZC tfZC))
    (wZC : ((l.prog.main.file : Str) == fileZC) = true)
    (mZC : PySem.W.mroIn K CC (.ref CC) = some true)
    (pZC : PySem.W.ks_superIn K CC CC "__init__" = some (some (.builtin "ValueError.__init__")))
    (bZC : PySem.W.subIn K (.ref CC) (.type "ValueError") = some true)
    (nZC_part : PySem.W.findIn K (.ref CC) "part" = some none)
    (gZC : PySem.W.findIn K (.ref CC) "__getattribute__" = some (some (.builtin "BaseException.__getattribute__")))
    (hZC : PySem.W.findIn K (.ref CC) "__getattr__" = some none)
    (dZC : PySem.W.hasDictIn K CC = true)
    (jZC : PySem.W.findIn K (.ref CC) "__class__" = some (some (.builtin "object.__class__")))
    (rZC : PySem.W.mroIn K CC (.type "object") = some true)
    (k1ZC : PySem.W.kitOne K (.ref CC) (.ref CC) = some true)
    (emZC : PySem.W.exmOne K (.ref CC) (.ref CL) = some true)
    (kVZC : PySem.W.kitOne K (.ref CC) (.type "ValueError") = some true)
    (aZM : PySem.W.nsIn K mainGlobals "TooMany" = some (some (.ref CM)))
    (iZM : PySem.W.findIn K (.ref CM) "__init__" = some (some (.ref fZM)))
    (tZM : PySem.W.typeIn K (.ref fZM) = some (.type "function"))
    (lZM : K.lookup fZM = some ⟨ocZM, odZM, .func (PySem.W.fnX "__init__" "TooMany.__init__" (defArgs s_TooMany___init__) (defBody s_TooMany___init__) (defScope s_TooMany___init__) [("__class__", ccZM)] .none kVZM dcZM pmZM anZM (.ref cdZM) ctZM), slZM⟩)
    (cZM : PySem.W.codeIn K (.ref cdZM) "TooMany.__init__" = true)
    (eZM : ∃ nm q N bs bm sn sub ab col dd k0 k1 k2 k3 k5, K.lookup CM = some (excClassObj nm q CM N bs bm true sn sub ab col dd k0 k1 k2 k3 k5 "ValueError.__new__") ∧ PySem.HandSPX.refsVE bm = true)
    (sZM : PySem.W.findIn K (.ref CM) "__setattr__" = some (some (.builtin "object.__setattr__")))
    (xZM : PySem.W.subIn K (.ref CM) (.type "BaseException") = some true)
    (yZM : PySem.W.typeIn K (.ref CM) = some (.type "type"))
    (kZM : PySem.W.keepIn K (.ref CM) = true)
    (qZM : K.lookup ccZM = some ⟨clZM, cldZM, .cell (some (.ref CM)), cslZM⟩)
    (uZM : K.lookup cdZM = some ⟨cclZM, cddZM, .fields vsZM, ccsZM⟩)
    (vZM : vsZM[2]? = some (.str fileZM tfZM))
    (wZM : ((l.prog.main.file : Str) == fileZM) = true)
    (mZM : PySem.W.mroIn K CM (.ref CM) = some true)
    (pZM : PySem.W.ks_superIn K CM CM "__init__" = some (some (.builtin "ValueError.__init__")))
    (bZM : PySem.W.subIn K (.ref CM) (.type "ValueError") = some true)
    (nZM_what : PySem.W.findIn K (.ref CM) "what" = some none)
    (nZM_most : PySem.W.findIn K (.ref CM) "most" = some none)
    (gZM : PySem.W.findIn K (.ref CM) "__getattribute__" = some (some (.builtin "BaseException.__getattribute__")))
    (hZM : PySem.W.findIn K (.ref CM) "__getattr__" = some none)
    (dZM : PySem.W.hasDictIn K CM = true)
    (jZM : PySem.W.findIn K (.ref CM) "__class__" = some (some (.builtin "object.__class__")))
    (rZM : PySem.W.mroIn K CM (.type "object") = some true)
    (k1ZM : PySem.W.kitOne K (.ref CM) (.ref CM) = some true)
    (emZM : PySem.W.exmOne K (.ref CM) (.ref CL) = some true)
    (kVZM : PySem.W.kitOne K (.ref CM) (.type "ValueError") = some true)
    (aZN : PySem.W.nsIn K mainGlobals "NoChunk" = some (some (.ref CN)))
    (iZN : PySem.W.findIn K (.ref CN) "__init__" = some (some (.ref fZN)))
    (tZN : PySem.W.typeIn K (.ref fZN) = some (.type "function"))
    (lZN : K.lookup fZN = some ⟨ocZN, odZN, .func (PySem.W.fnX "__init__" "NoChunk.__init__" (defArgs s_NoChunk___init__) (defBody s_NoChunk___init__) (defScope s_NoChunk___init__) [("__class__", ccZN)] .none kVZN dcZN pmZN anZN (.ref cdZN) ctZN), slZN⟩)
    (cZN : PySem.W.codeIn K (.ref cdZN) "NoChunk.__init__" = true)
    (eZN : ∃ nm q N bs bm sn sub ab col dd k0 k1 k2 k3 k5, K.lookup CN = some (excClassObj nm q CN N bs bm true sn sub ab col dd k0 k1 k2 k3 k5 "ValueError.__new__") ∧ PySem.HandSPX.refsVE bm = true)
    (sZN : PySem.W.findIn K (.ref CN) "__setattr__" = some (some (.builtin "object.__setattr__")))
    (xZN : PySem.W.subIn K (.ref CN) (.type "BaseException") = some true)
    (yZN : PySem.W.typeIn K (.ref CN) = some (.type "type"))
    (kZN : PySem.W.keepIn K (.ref CN) = true)
    (qZN : K.lookup ccZN = some ⟨clZN, cldZN, .cell (some (.ref CN)), cslZN⟩)
    (uZN : K.lookup cdZN = some ⟨cclZN, cddZN, .fields vsZN, ccsZN⟩)
    (vZN : vsZN[2]? = some (.str fileZN tfZN))
    (wZN : ((l.prog.main.file : Str) == fileZN) = true)
    (mZN : PySem.W.mroIn K CN (.ref CN) = some true)
    (pZN : PySem.W.ks_superIn K CN CN "__init__" = some (some (.builtin "ValueError.__init__")))
    (bZN : PySem.W.subIn K (.ref CN) (.type "ValueError") = some true)
    (nZN_at : PySem.W.findIn K (.ref CN) "at" = some none)
    (gZN : PySem.W.findIn K (.ref CN) "__getattribute__" = some (some (.builtin "BaseException.__getattribute__")))
    (hZN : PySem.W.findIn K (.ref CN) "__getattr__" = some none)
    (dZN : PySem.W.hasDictIn K CN = true)
    (jZN : PySem.W.findIn K (.ref CN) "__class__" = some (some (.builtin "object.__class__")))
    (rZN : PySem.W.mroIn K CN (.type "object") = some true)
    (k1ZN : PySem.W.kitOne K (.ref CN) (.ref CN) = some true)
    (emZN : PySem.W.exmOne K (.ref CN) (.ref CL) = some true)
    (kVZN : PySem.W.kitOne K (.ref CN) (.type "ValueError") = some true)
    (aZW : PySem.W.nsIn K mainGlobals "BadText" = some (some (.ref CW)))
    (iZW : PySem.W.findIn K (.ref CW) "__init__" = some (some (.ref fZW)))
    (tZW : PySem.W.typeIn K (.ref fZW) = some (.type "function"))
    (lZW : K.lookup fZW = some ⟨ocZW, odZW, .func (PySem.W.fnX "__init__" "BadText.__init__" (defArgs s_BadText___init__) (defBody s_BadText___init__) (defScope s_BadText___init__) [("__class__", ccZW)] .none kVZW dcZW pmZW anZW (.ref cdZW) ctZW), slZW⟩)
    (cZW : PySem.W.codeIn K (.ref cdZW) "BadText.__init__" = true)
    (eZW : ∃ nm q N bs bm sn sub ab col dd k0 k1 k2 k3 k5, K.lookup CW = some (excClassObj nm q CW N bs bm true sn sub ab col dd k0 k1 k2 k3 k5 "ValueError.__new__") ∧ PySem.HandSPX.refsVE bm = true)
    (sZW : PySem.W.findIn K (.ref CW) "__setattr__" = some (some (.builtin "object.__setattr__")))
    (xZW : PySem.W.subIn K (.ref CW) (.type "BaseException") = some true)
    (yZW : PySem.W.typeIn K (.ref CW) = some (.type "type"))
    (kZW : PySem.W.keepIn K (.ref CW) = true)
    (qZW : K.lookup ccZW = some ⟨clZW, cldZW, .cell (some (.ref CW)), cslZW⟩)
    (uZW : K.lookup cdZW = some ⟨cclZW, cddZW, .fields vsZW, ccsZW⟩)
    (vZW : vsZW[2]? = some (.str fileZW tfZW))
    (wZW : ((l.prog.main.file : Str) == fileZW) = true)
    (mZW : PySem.W.mroIn K CW (.ref CW) = some true)
    (pZW : PySem.W.ks_superIn K CW CW "__init__" = some (some (.builtin "ValueError.__init__")))
    (bZW : PySem.W.subIn K (.ref CW) (.type "ValueError") = some true)
    (nZW_line : PySem.W.findIn K (.ref CW) "line" = some none)
    (nZW_word : PySem.W.findIn K (.ref CW) "word" = some none)
    (gZW : PySem.W.findIn K (.ref CW) "__getattribute__" = some (some (.builtin "BaseException.__getattribute__")))
    (hZW : PySem.W.findIn K (.ref CW) "__getattr__" = some none)
    (dZW : PySem.W.hasDictIn K CW = true)
    (jZW : PySem.W.findIn K (.ref CW) "__class__" = some (some (.builtin "object.__class__")))
    (rZW : PySem.W.mroIn K CW (.type "object") = some true)
    (k1ZW : PySem.W.kitOne K (.ref CW) (.ref CW) = some true)
    (emZW : PySem.W.exmOne K (.ref CW) (.ref CL) = some true)
    (kVZW : PySem.W.kitOne K (.ref CW) (.type "ValueError") = some true)
    (kMW : PySem.W.kitOne K (.ref CM) (.ref CW) = some false)
    (kWM : PySem.W.kitOne K (.ref CW) (.ref CM) = some false)
    (kCI : PySem.W.kitOne K (.ref C) (.type "int") = some false)
    (kCS : PySem.W.kitOne K (.ref C) (.type "str") = some false)
    (kCLT : PySem.W.kitAny K (.ref C) [.type "list", .type "tuple"] = some false)
    (kTC : (["int", "NoneType", "bool", "str", "tuple", "list", "dict"].all fun T => decide (PySem.W.kitOne K (.type T) (.ref C) = some false)) = true)
    (gMS : PySem.W.nsIn K mainGlobals "MOST_SIZE" = some (some (.int 1000000000000000000000000000000 tMS)))
    (gMC : PySem.W.nsIn K mainGlobals "MOST_CHUNKS" = some (some (.int 5000 tMC)))
    (gMI : PySem.W.nsIn K mainGlobals "MOST_ITEMS" = some (some (.int 1000000000000000000000000000000 tMI)))
    (gMF : PySem.W.nsIn K mainGlobals "MOST_FIGURES" = some (some (.int 4000 tMF)))
    (digs : PySem.W.nsIn K cStatics "sys.int_max_str_digits" = some none)
    (k5CCCB : PySem.W.kitOne K (.ref CC) (.ref CB) = some false)
    (k5CCCT : PySem.W.kitOne K (.ref CC) (.ref CT) = some false)
    (k5CCCN : PySem.W.kitOne K (.ref CC) (.ref CN) = some false)
    (k5CCCM : PySem.W.kitOne K (.ref CC) (.ref CM) = some false)
    (k5CBCC : PySem.W.kitOne K (.ref CB) (.ref CC) = some false)
    (k5CBCT : PySem.W.kitOne K (.ref CB) (.ref CT) = some false)
    (k5CBCN : PySem.W.kitOne K (.ref CB) (.ref CN) = some false)
    (k5CBCM : PySem.W.kitOne K (.ref CB) (.ref CM) = some false)
    (k5CTCB : PySem.W.kitOne K (.ref CT) (.ref CB) = some false)
    (k5CTCC : PySem.W.kitOne K (.ref CT) (.ref CC) = some false)
    (k5CTCN : PySem.W.kitOne K (.ref CT) (.ref CN) = some false)
    (k5CTCM : PySem.W.kitOne K (.ref CT) (.ref CM) = some false)
    (k5CNCB : PySem.W.kitOne K (.ref CN) (.ref CB) = some false)
    (k5CNCC : PySem.W.kitOne K (.ref CN) (.ref CC) = some false)
    (k5CNCT : PySem.W.kitOne K (.ref CN) (.ref CT) = some false)
    (k5CNCM : PySem.W.kitOne K (.ref CN) (.ref CM) = some false)
    (k5CMCB : PySem.W.kitOne K (.ref CM) (.ref CB) = some false)
    (k5CMCC : PySem.W.kitOne K (.ref CM) (.ref CC) = some false)
    (k5CMCT : PySem.W.kitOne K (.ref CM) (.ref CT) = some false)
    (k5CMCN : PySem.W.kitOne K (.ref CM) (.ref CN) = some false)
    (z_isinstance : PySem.W.nsIn K mainGlobals "isinstance" = some none)
    (z_int : PySem.W.nsIn K mainGlobals "int" = some none)
    (z_bool : PySem.W.nsIn K mainGlobals "bool" = some none)
    (z_len : PySem.W.nsIn K mainGlobals "len" = some none)
    (z_abs : PySem.W.nsIn K mainGlobals "abs" = some none)
    (z_list : PySem.W.nsIn K mainGlobals "list" = some none)
    (z_tuple : PySem.W.nsIn K mainGlobals "tuple" = some none)
    (z_range : PySem.W.nsIn K mainGlobals "range" = some none)
    (z_repr : PySem.W.nsIn K mainGlobals "repr" = some none)
    (z_str : PySem.W.nsIn K mainGlobals "str" = some none)
    (z_zip : PySem.W.nsIn K mainGlobals "zip" = some none)
    (z_min : PySem.W.nsIn K mainGlobals "min" = some none)
    (z_max : PySem.W.nsIn K mainGlobals "max" = some none)
    (z_all : PySem.W.nsIn K mainGlobals "all" = some none)
    (z_sorted : PySem.W.nsIn K mainGlobals "sorted" = some none)
    (z_enumerate : PySem.W.nsIn K mainGlobals "enumerate" = some none)
    (z_ValueError : PySem.W.nsIn K mainGlobals "ValueError" = some none)
    (hCPt : PySem.W.codeHdIn K ct0 Pt = true)
    (nPPt : K.lookup Pt = none)
    (hCPt1 : PySem.W.codeHdIn K ctt1 Pt1 = true)
    (nPPt1 : K.lookup Pt1 = none)
    (hCPt2 : PySem.W.codeHdIn K ctt2 Pt2 = true)
    (nPPt2 : K.lookup Pt2 = none)
    (tPPt : h.get? Pt = some { cls := .none, data := .fields #[] })
    (tPPt1 : h.get? Pt1 = some { cls := .none, data := .fields #[] })
    (tPPt2 : h.get? Pt2 = some { cls := .none, data := .fields #[] })
    (hPd0 : [Pt, Pt1, Pt2].Nodup)
    : LawG l w K CX0 14 63 "_law_script" mg fa h := by
  have e := hfa.symm.trans (PySem.W.mg_of X G a18)
  cases e
  have hPd : (([(Pt, lamQ1), (Pt1, lamQ2), (Pt2, lamQ3)] : List (Addr × Str)).map (·.1)).Nodup := hPd0
  have T : Txt K mg C CB CC CM CL CT CN CW := ⟨PySem.W.mg_none_of X G z_isinstance, PySem.W.mg_none_of X G z_int, PySem.W.mg_none_of X G z_bool, PySem.W.mg_none_of X G z_len, PySem.W.mg_none_of X G z_abs, PySem.W.mg_none_of X G z_list, PySem.W.mg_none_of X G z_tuple, PySem.W.mg_none_of X G z_range, PySem.W.mg_none_of X G z_repr, PySem.W.mg_none_of X G z_str, PySem.W.mg_none_of X G z_zip, PySem.W.mg_none_of X G z_min, PySem.W.mg_none_of X G z_max, PySem.W.mg_none_of X G z_all, PySem.W.mg_none_of X G z_sorted, PySem.W.mg_none_of X G z_enumerate, PySem.W.mg_none_of X G z_ValueError, PySem.W.mg_of X G a_CL, ⟨⟨_, PySem.W.mg_of X G a_C, rfl⟩, ⟨pg_C, hd_C, po_C, sa_C⟩, yk_C, ya_C, yb, yc, yd_C⟩, ⟨⟨_, PySem.W.mg_of X G aZB, rfl⟩, ⟨gZB, hZB, xZB, dZB, jZB, yb, yc, rZB⟩, ⟨gZB, hZB, xZB, dZB⟩, (List.forall_mem_cons.mpr ⟨nZB_value, (fun _ h => nomatch h)⟩), k1ZB, emZB, kVZB⟩, ⟨⟨_, PySem.W.mg_of X G aZC, rfl⟩, ⟨gZC, hZC, xZC, dZC, jZC, yb, yc, rZC⟩, ⟨gZC, hZC, xZC, dZC⟩, (List.forall_mem_cons.mpr ⟨nZC_part, (fun _ h => nomatch h)⟩), k1ZC, emZC, kVZC⟩, ⟨⟨_, PySem.W.mg_of X G aZM, rfl⟩, ⟨gZM, hZM, xZM, dZM, jZM, yb, yc, rZM⟩, ⟨gZM, hZM, xZM, dZM⟩, (List.forall_mem_cons.mpr ⟨nZM_what, (List.forall_mem_cons.mpr ⟨nZM_most, (fun _ h => nomatch h)⟩)⟩), k1ZM, emZM, kVZM⟩, ⟨⟨_, PySem.W.mg_of X G aZN, rfl⟩, ⟨gZN, hZN, xZN, dZN, jZN, yb, yc, rZN⟩, ⟨gZN, hZN, xZN, dZN⟩, (List.forall_mem_cons.mpr ⟨nZN_at, (fun _ h => nomatch h)⟩), k1ZN, emZN, kVZN⟩, ⟨⟨_, PySem.W.mg_of X G aZT, rfl⟩, ⟨gZT, hZT, xZT, dZT, jZT, yb, yc, rZT⟩, ⟨gZT, hZT, xZT, dZT⟩, (List.forall_mem_cons.mpr ⟨nZT_value, (fun _ h => nomatch h)⟩), k1ZT, emZT, kVZT⟩, ⟨⟨_, PySem.W.mg_of X G aZW, rfl⟩, ⟨gZW, hZW, xZW, dZW, jZW, yb, yc, rZW⟩, ⟨gZW, hZW, xZW, dZW⟩, (List.forall_mem_cons.mpr ⟨nZW_line, (List.forall_mem_cons.mpr ⟨nZW_word, (fun _ h => nomatch h)⟩)⟩), k1ZW, emZW, kVZW⟩, kMW, kWM, kCI, kCS, kCLT, kTC, ⟨cf1_C, cf2_C, cf3_C, yd_C, cf5_C⟩, n_C_sizes, n_C_ends, n_C_total, n_C_rests, ⟨_, PySem.W.mg_of X G gMS, ⟨_, rfl⟩⟩, ⟨_, PySem.W.mg_of X G gMC, ⟨_, rfl⟩⟩, ⟨_, PySem.W.mg_of X G gMI, ⟨_, rfl⟩⟩, ⟨_, PySem.W.mg_of X G gMF, ⟨_, rfl⟩⟩, digs⟩
  have F1 := fun_mk (st := s_is_integer) l1 c1 k1
  have F2 := fun_mk (st := s_is_within) l2 c2 k2
  have F3 := fun_mk (st := s_is_size) l3 c3 k3
  have F4 := fun_mk (st := s_need_size) l4 c4 k4
  have F5 := fun_mk (st := s_need_few) l5 c5 k5
  have F6 := fun_mk (st := s_need_total) l6 c6 k6
  have F7 := fun_mk (st := s_rounded_up) l7 c7 k7
  have F8 := fun_mk (st := s_ends_of) l8 c8 k8
  have F9 := fun_mk (st := s__law_heard) l9 c9 k9
  have F10 := fun_mk (st := s__law_pen) l10 c10 k10
  have F11 := fun_mk (st := s__law_draw) l11 c11 k11
  have F12 := fun_mk (st := s__law_pick) l12 c12 k12
  have F13 := fun_mk (st := s__law_even) l13 c13 k13
  have F14 := fun_mk (st := s__law_tapered) l14 c14 k14
  have F15 : FunC K "_law_even_right" "_law_even_right" s__law_even_right ct0 f15 _ := ⟨⟨_, _, _, _, _, _, _, _, rfl, l15, c15⟩⟩
  have F16 := fun_mk (st := s__law_tapered_right) l16 c16 k16
  have F17 : FunC K "_law_refused_right" "_law_refused_right" s__law_refused_right ctt1 f17 _ := ⟨⟨_, _, _, _, _, _, _, _, rfl, l17, c17⟩⟩
  have F18 : FunC K "law" "law" s_law ctt2 _ _ := ⟨⟨_, _, _, _, _, _, _, _, rfl, l18, c18⟩⟩
  have F_C___init__ := fun_mk l_C___init__ c_C___init__ k_C___init__
  have F_C___eq__ := fun_mk l_C___eq__ c_C___eq__ k_C___eq__
  have F_C___len__ := fun_mk l_C___len__ c_C___len__ k_C___len__
  have F_C_even := fun_mk l_C_even c_C_even k_C_even
  have F_C_shared := fun_mk l_C_shared c_C_shared k_C_shared
  have F_C_tapered := fun_mk l_C_tapered c_C_tapered k_C_tapered
  refine ⟨PySem.W.fnOf "law" "law" (defArgs s_law) (defBody s_law) (defScope s_law) .none kV18 dc18 pm18 an18 (.ref ctt2) ct18, [(ct0, Pt), (ctt1, Pt1), (ctt2, Pt2)], spLaw K [(Pt, lamQ1), (Pt1, lamQ2), (Pt2, lamQ3)], ?_, ?_, ?_, (fun s u => BindsTo.of_eq rfl), ?_, fun base kb nb tb => ?_⟩
  · intro p hp
    simp only [List.mem_cons, List.not_mem_nil, or_false] at hp
    rcases hp with rfl | rfl | rfl
    · exact tPPt
    · exact tPPt1
    · exact tPPt2
  · intro p hp
    simp only [List.mem_cons, List.not_mem_nil, or_false] at hp
    rcases hp with rfl | rfl | rfl
    · exact nPPt
    · exact nPPt1
    · exact nPPt2
  · intro p hp
    simp only [List.mem_cons, List.not_mem_nil, or_false] at hp
    rcases hp with rfl | rfl | rfl
    · exact PySem.W.codeHd_of_K X hCPt
    · exact PySem.W.codeHd_of_K X hCPt1
    · exact PySem.W.codeHd_of_K X hCPt2
  · intro H a ns hl hH hS
    refine ⟨a, ns, rfl, hS, hl, (fun p hp => ?_), fun _ => rfl⟩
    simp only [List.mem_cons, List.not_mem_nil, or_false] at hp
    rcases hp with rfl | rfl | rfl
    · exact tab0 (hH _ List.mem_cons_self)
    · exact tab0 (hH _ (List.mem_cons_of_mem _ List.mem_cons_self))
    · exact tab0 (hH _ (List.mem_cons_of_mem _ (List.mem_cons_of_mem _ List.mem_cons_self)))
  have SZB : SupF l.prog K mg CB fZB cdZB ccZB (defScope s_BadSize___init__) := ⟨⟨eZB, sZB, xZB, yZB, kZB⟩, ⟨_, _, _, qZB⟩, ⟨_, _, _, _, _, _, uZB, vZB, wZB⟩, mZB, PySem.W.mg_none_of X G zS, tS, oB, pZB, bZB, by decide +kernel, by decide +kernel⟩
  have e_BadSize : Er1 l.prog w K mg base "BadSize" CB "value" := ⟨⟨eZB, sZB, xZB, yZB, kZB⟩, PySem.W.mg_of X G aZB, fZB, _, "value", iZB, tZB, ok_BadSize lZB cZB SZB nZB_value, .all (fun us hl => match us, hl with | [_, _], _ => rfl)⟩
  have SZT : SupF l.prog K mg CT fZT cdZT ccZT (defScope s_BadTotal___init__) := ⟨⟨eZT, sZT, xZT, yZT, kZT⟩, ⟨_, _, _, qZT⟩, ⟨_, _, _, _, _, _, uZT, vZT, wZT⟩, mZT, PySem.W.mg_none_of X G zS, tS, oB, pZT, bZT, by decide +kernel, by decide +kernel⟩
  have e_BadTotal : Er1 l.prog w K mg base "BadTotal" CT "value" := ⟨⟨eZT, sZT, xZT, yZT, kZT⟩, PySem.W.mg_of X G aZT, fZT, _, "value", iZT, tZT, ok_BadTotal lZT cZT SZT nZT_value, .all (fun us hl => match us, hl with | [_, _], _ => rfl)⟩
  have SZM : SupF l.prog K mg CM fZM cdZM ccZM (defScope s_TooMany___init__) := ⟨⟨eZM, sZM, xZM, yZM, kZM⟩, ⟨_, _, _, qZM⟩, ⟨_, _, _, _, _, _, uZM, vZM, wZM⟩, mZM, PySem.W.mg_none_of X G zS, tS, oB, pZM, bZM, by decide +kernel, by decide +kernel⟩
  have e_TooMany : Er2 l.prog w K mg base "TooMany" CM "what" "most" := ⟨⟨eZM, sZM, xZM, yZM, kZM⟩, PySem.W.mg_of X G aZM, fZM, _, "what", "most", iZM, tZM, ok_TooMany lZM cZM SZM nZM_what nZM_most, .all (fun us hl => match us, hl with | [_, _, _], _ => rfl)⟩
  have c_is_integer : FnO l.prog w K mg base CX0 1 "is_integer" ["value"] (spIsI2 K) := ⟨⟨f1, _, ok_is_integer F1 T, PySem.W.mg_of X G a1, k1, bMk F1 (fun _ _ _ _ _ _ us hl => match us, hl with | [_], _ => rfl)⟩⟩
  have c_is_within : FnO l.prog w K mg base CX0 2 "is_within" ["value", "least", "most"] (spWithin2 K) := ⟨⟨f2, _, ok_is_within F2 T c_is_integer, PySem.W.mg_of X G a2, k2, bMk F2 (fun _ _ _ _ _ _ us hl => match us, hl with | [_, _, _], _ => rfl)⟩⟩
  have c_is_size : FnO l.prog w K mg base CX0 3 "is_size" ["value"] (spSize2 K) := ⟨⟨f3, _, ok_is_size F3 T c_is_within, PySem.W.mg_of X G a3, k3, bMk F3 (fun _ _ _ _ _ _ us hl => match us, hl with | [_], _ => rfl)⟩⟩
  have c_need_size : FnO l.prog w K mg base (L2.CX l.prog w) 4 "need_size" ["value"] (spNeedSize K CB) := ⟨⟨f4, _, ok_need_size F4 T c_is_size e_BadSize, PySem.W.mg_of X G a4, k4, bMk F4 (fun _ _ _ _ _ _ us hl => match us, hl with | [_], _ => rfl)⟩⟩
  have c_need_total : FnO l.prog w K mg base (L2.CX l.prog w) 3 "need_total" ["value"] (spNeedTotal K CT) := ⟨⟨f6, _, ok_need_total F6 T c_is_within e_BadTotal, PySem.W.mg_of X G a6, k6, bMk F6 (fun _ _ _ _ _ _ us hl => match us, hl with | [_], _ => rfl)⟩⟩
  have c_need_few : FnO l.prog w K mg base (L2.CX l.prog w) 3 "need_few" ["many"] (spNeedFew CM) := ⟨⟨f5, _, ok_need_few F5 T e_TooMany, PySem.W.mg_of X G a5, k5, bMk F5 (fun _ _ _ _ _ _ us hl => match us, hl with | [_], _ => rfl)⟩⟩
  have c_rounded_up : FnO l.prog w K mg base CX0 1 "rounded_up" ["number", "by"] spUpDiv := ⟨⟨f7, _, ok_rounded_up F7 T, PySem.W.mg_of X G a7, k7, bMk F7 (fun _ _ _ _ _ _ us hl => match us, hl with | [_, _], _ => rfl)⟩⟩
  have c_ends_of : FnO l.prog w K mg base CX0 1 "ends_of" ["sizes"] spEnds := ⟨⟨f8, _, ok_ends_of F8 T, PySem.W.mg_of X G a8, k8, bMk F8 (fun _ _ _ _ _ _ us hl => match us, hl with | [_], _ => rfl)⟩⟩
  have m_Chunks : McR l.prog w K mg base (L2.CX l.prog w) 5 "Chunks" C (spCk K C CB CM) := ⟨⟨g_C___init__, ok_Chunks F_C___init__ T c_need_size c_need_few c_ends_of, PySem.W.mg_of X G a_C, ⟨mk_C, a_C___init__, i_C___init__, kc_C⟩⟩⟩
  have st_even : StM l.prog w K mg base (L2.CX l.prog w) 7 C "even" ["total", "size"] (spEvenC K C CB CT CM) := ⟨⟨.type "type", p_C_even, g_C_even, _, rest_C_even, ⟨sr_C, sg_C⟩, sf_C_even, sc_C_even, rfl, k_C_even, ok_even F_C_even T m_Chunks c_need_total c_need_size c_need_few c_rounded_up, bMk F_C_even (fun _ _ _ _ _ _ us hl => match us, hl with | [_, _], _ => rfl), bkMk F_C_even (fun _ _ _ _ _ _ us hl => match us, hl with | [_, _], _ => rfl)⟩⟩
  have str_even : StR l.prog w K mg base (L2.CX l.prog w) 7 C "even" ["total", "size"] (spEvenC K C CB CT CM) := ⟨⟨.type "type", p_C_even, g_C_even, _, rest_C_even, ⟨sr_C, sg_C⟩, sf_C_even, sc_C_even, rfl, k_C_even, ok_even F_C_even T m_Chunks c_need_total c_need_size c_need_few c_rounded_up, bkrMk F_C_even (fun _ _ _ _ _ _ us hl => match us, hl with | [_, _], _ => rfl)⟩⟩
  have st_shared : StM l.prog w K mg base (L2.CX l.prog w) 7 C "shared" ["total", "many"] (spShared K C CB CT CM) := ⟨⟨.type "type", p_C_shared, g_C_shared, _, rest_C_shared, ⟨sr_C, sg_C⟩, sf_C_shared, sc_C_shared, rfl, k_C_shared, ok_shared F_C_shared T m_Chunks c_need_total c_is_within c_need_few e_BadSize, bMk F_C_shared (fun _ _ _ _ _ _ us hl => match us, hl with | [_, _], _ => rfl), bkMk F_C_shared (fun _ _ _ _ _ _ us hl => match us, hl with | [_, _], _ => rfl)⟩⟩
  have str_shared : StR l.prog w K mg base (L2.CX l.prog w) 7 C "shared" ["total", "many"] (spShared K C CB CT CM) := ⟨⟨.type "type", p_C_shared, g_C_shared, _, rest_C_shared, ⟨sr_C, sg_C⟩, sf_C_shared, sc_C_shared, rfl, k_C_shared, ok_shared F_C_shared T m_Chunks c_need_total c_is_within c_need_few e_BadSize, bkrMk F_C_shared (fun _ _ _ _ _ _ us hl => match us, hl with | [_, _], _ => rfl)⟩⟩
  have st_tapered : StM l.prog w K mg base (L2.CX l.prog w) 7 C "tapered" ["total", "first", "last"] (spTaper K C CB CT CM) := ⟨⟨.type "type", p_C_tapered, g_C_tapered, _, rest_C_tapered, ⟨sr_C, sg_C⟩, sf_C_tapered, sc_C_tapered, rfl, k_C_tapered, ok_tapered F_C_tapered T m_Chunks c_need_total c_need_size c_is_within c_need_few c_rounded_up e_BadSize, bMk F_C_tapered (fun _ _ _ _ _ _ us hl => match us, hl with | [_, _, _], _ => rfl), bkMk F_C_tapered (fun _ _ _ _ _ _ us hl => match us, hl with | [_, _, _], _ => rfl)⟩⟩
  have str_tapered : StR l.prog w K mg base (L2.CX l.prog w) 7 C "tapered" ["total", "first", "last"] (spTaper K C CB CT CM) := ⟨⟨.type "type", p_C_tapered, g_C_tapered, _, rest_C_tapered, ⟨sr_C, sg_C⟩, sf_C_tapered, sc_C_tapered, rfl, k_C_tapered, ok_tapered F_C_tapered T m_Chunks c_need_total c_need_size c_is_within c_need_few c_rounded_up e_BadSize, bkrMk F_C_tapered (fun _ _ _ _ _ _ us hl => match us, hl with | [_, _, _], _ => rfl)⟩⟩
  have me_len : Me l.prog w K mg base C "__len__" 1 ["self"] (spLenC C) := ⟨⟨g_C___len__, _, a_C___len__, i_C___len__, ok_len F_C___len__ T, bMk F_C___len__ (fun _ _ _ _ _ _ us hl => match us, hl with | [_], _ => rfl)⟩⟩
  have me_eq : Me l.prog w K mg base C "__eq__" 1 ["self", "other"] (spCkEq K C) := ⟨⟨g_C___eq__, _, a_C___eq__, i_C___eq__, ok_eq F_C___eq__ T, bMk F_C___eq__ (fun _ _ _ _ _ _ us hl => match us, hl with | [_, _], _ => rfl)⟩⟩
  have FH : HeF K mg := ⟨f9, _, F9, PySem.W.mg_of X G a9, bMk F9 (fun _ _ _ _ _ _ us hl => match us, hl with | [_], _ => rfl)⟩
  have F5 : Kit5 K CB CC CM CT CN := ⟨k5CCCB, k5CCCT, k5CCCN, k5CCCM, k5CBCC, k5CBCT, k5CBCN, k5CBCM, k5CTCC, k5CTCB, k5CTCN, k5CTCM, k5CNCC, k5CNCB, k5CNCT, k5CNCM, k5CMCC, k5CMCB, k5CMCT, k5CMCN⟩
  have c__law_pen : Fn l.prog w K mg base CX0 1 "_law_pen" ["_law_script"] (spPen K) := fnMk F10 (ok_pen F10 T) (PySem.W.mg_of X G a10) (fun _ _ _ _ _ _ us hl => match us, hl with | [_], _ => rfl) (fun _ _ _ _ _ _ us hl => match us, hl with | [_], _ => rfl)
  have c__law_draw : Fn l.prog w K mg base CX0 1 "_law_draw" ["_law_pen_here", "_law_many"] spDraw := fnMk F11 (ok_draw F11 T) (PySem.W.mg_of X G a11) (fun _ _ _ _ _ _ us hl => match us, hl with | [_, _], _ => rfl) (fun _ _ _ _ _ _ us hl => match us, hl with | [_, _], _ => rfl)
  have c__law_pick : Fn l.prog w K mg base CX0 2 "_law_pick" ["_law_pen_here", "_law_some"] spPick := fnMk F12 (ok_pick F12 T c__law_draw) (PySem.W.mg_of X G a12) (fun _ _ _ _ _ _ us hl => match us, hl with | [_, _], _ => rfl) (fun _ _ _ _ _ _ us hl => match us, hl with | [_, _], _ => rfl)
  have c__law_even : Fn l.prog w K mg base CX0 1 "_law_even" ["_law_total", "_law_size"] spLEven := fnMk F13 (ok_leven F13 T) (PySem.W.mg_of X G a13) (fun _ _ _ _ _ _ us hl => match us, hl with | [_, _], _ => rfl) (fun _ _ _ _ _ _ us hl => match us, hl with | [_, _], _ => rfl)
  have c__law_tapered : Fn l.prog w K mg base CX0 1 "_law_tapered" ["_law_total", "_law_first", "_law_last"] spLTap := fnMk F14 (ok_ltap F14 T) (PySem.W.mg_of X G a14) (fun _ _ _ _ _ _ us hl => match us, hl with | [_, _, _], _ => rfl) (fun _ _ _ _ _ _ us hl => match us, hl with | [_, _, _], _ => rfl)
  have c__law_even_right : Fn l.prog w K mg base CX0 12 "_law_even_right" ["_law_pen_here"] (spEvR [(Pt, lamQ1), (Pt1, lamQ2), (Pt2, lamQ3)]) := fnMk (F15.fun k15) (ok_evenR F15 (tb _ List.mem_cons_self) List.mem_cons_self (fun p hp e => tt_uniq hPd hp List.mem_cons_self e) T F5 FH c__law_draw c__law_pick c__law_even st_even str_even st_shared str_shared m_Chunks me_eq me_len) (PySem.W.mg_of X G a15) (fun _ _ _ _ _ _ us hl => match us, hl with | [_], _ => rfl) (fun _ _ _ _ _ _ us hl => match us, hl with | [_], _ => rfl)
  have c__law_tapered_right : Fn l.prog w K mg base CX0 9 "_law_tapered_right" ["_law_pen_here"] spTapR := fnMk F16 (ok_tapR F16 T c__law_draw c__law_pick c__law_tapered st_tapered str_tapered me_eq) (PySem.W.mg_of X G a16) (fun _ _ _ _ _ _ us hl => match us, hl with | [_], _ => rfl) (fun _ _ _ _ _ _ us hl => match us, hl with | [_], _ => rfl)
  have c__law_refused_right : Fn l.prog w K mg base CX0 12 "_law_refused_right" ["_law_pen_here"] (spEvR [(Pt, lamQ1), (Pt1, lamQ2), (Pt2, lamQ3)]) := fnMk (F17.fun k17) (ok_refused F17 (tb _ (List.mem_cons_of_mem _ List.mem_cons_self)) (List.mem_cons_of_mem _ List.mem_cons_self) (fun p hp e => tt_uniq hPd hp (List.mem_cons_of_mem _ List.mem_cons_self) e) T F5 FH c__law_pick st_even st_shared st_tapered) (PySem.W.mg_of X G a17) (fun _ _ _ _ _ _ us hl => match us, hl with | [_], _ => rfl) (fun _ _ _ _ _ _ us hl => match us, hl with | [_], _ => rfl)
  exact ok_law F18 (tb _ (List.mem_cons_of_mem _ (List.mem_cons_of_mem _ List.mem_cons_self))) (List.mem_cons_of_mem _ (List.mem_cons_of_mem _ List.mem_cons_self)) (fun p hp e => tt_uniq hPd hp (List.mem_cons_of_mem _ (List.mem_cons_of_mem _ List.mem_cons_self)) e) T F5 FH c__law_pen c__law_even_right c__law_tapered_right c__law_refused_right st_even st_shared st_tapered me_len
end K13
end
section
namespace L3
open PySem PySem.W
def kmOb (a t : List Addr) (s : SharedT) : List (Option Obj) × List (Option Obj) := (a.map (HandSHeadRun.getT s), t.map (HandSHeadRun.getT s))
theorem kmOb_eq {K : Params → Frag} {a : List Addr} {e : ∀ P, a = (K P).map (·.1)} {t : List Addr} (s : SharedT) : kmOb a t s = (kmHook K a e t).obs s.abs := by
  have h : HandSHeadRun.getT s = s.abs.heap.get? := funext (HandSHeadRun.getT_eq s)
  unfold kmOb
  rw [h]; rfl
def looseN : List PySem.Str := (["_wall", "MOST_SIZE", "is_integer", "is_within", "is_size", "LateError", "BadSize", "BadTotal", "BadChunks", "BadText", "NoChunk", "TooMany", "MOST_FIGURES", "number_of", "is_figures", "MOST_CHUNKS", "MOST_ITEMS", "need_size", "need_total", "need_few", "need_other", "ends_of", "between", "rounded_up", "Chunks", "read_sizes", "_law_pen", "_law_draw", "_law_pick", "_law_heard"] : List PySem.Str) ++ (["_law_even", "_law_tapered", "_law_even_right", "_law_tapered_right", "_law_refused_right"] : List PySem.Str)
end L3
open PySem PySem.W PyProof.Rows
local macro_rules | `(tactic| o_head (kmHook $K $a $e $t)) => `(tactic| (refine HandSHeadRun.head_any (r := (OpenLaw.row PySem.Challenge.rw_latechunks_k13_even_shared_and_tapered_l)) (q := view (OpenLaw.row PySem.Challenge.rw_latechunks_k13_even_shared_and_tapered_l).prog [40]) (H := kmHook $K $a $e $t) (ob := L3.kmOb $a $t) (M := 30000) (loose := L3.looseN) (d := HandSHeadRun.topDef ((OpenLaw.row PySem.Challenge.rw_latechunks_k13_even_shared_and_tapered_l)).prog 40) (kwd := []) L3.kmOb_eq (by kernel_rfl) (fun s => by kernel_rfl) (fun w os => by kernel_rfl) (by kernel_rfl) (by kernel_rfl) (by kernel_rfl) (by rfl) (by first | assumption | decide +kernel) (by decide +kernel) ⟨rfl, rfl, rfl, rfl, rfl, by decide +kernel⟩ ?hw ?hc))
set_option maxRecDepth 100000 in
set_option maxHeartbeats 0 in
theorem PySem.Challenge.cw_latechunks_k13_even_shared_and_tapered_l_holds : PySem.Challenge.rw_latechunks_k13_even_shared_and_tapered_l.Holds := by
  w_on; o_law; k_head; (case hw => w_witness2)
  k_fill
  refine L3.walkG (l := PySem.Challenge.rw_latechunks_k13_even_shared_and_tapered_l) (n := 63) (k := 14) (x := "_law_script") (CX := fun _ => L2.CX0) rfl (by decide) (by kernel_rfl) ⟨rfl, by decide, by decide⟩ (fun w h Y => PySem.W.km_in_of Y) ?F (fun _ _ _ _ _ z => z)
  case F =>
    intro w mg fa h Y KX G hmg0
    have hmg : mg ("law" : PySem.Str) = some (.ref fa) := by
      have e : (HandSHeadRun.topDef ((OpenLaw.row PySem.Challenge.rw_latechunks_k13_even_shared_and_tapered_l)).prog 40).name = ("law" : PySem.Str) := by kernel_rfl
      rw [← e]
      exact hmg0
    refine' K13.all_mk (Pt := 476) (Pt1 := 488) (Pt2 := 495) KX G hmg ?a1 ?l1 ?c1 ?k1 ?a2 ?l2 ?c2 ?k2 ?a3 ?l3 ?c3 ?k3 ?a4 ?l4 ?c4 ?k4 ?a5 ?l5 ?c5 ?k5 ?a6 ?l6 ?c6 ?k6 ?a7 ?l7 ?c7 ?k7 ?a8 ?l8 ?c8 ?k8 ?a9 ?l9 ?c9 ?k9 ?a10 ?l10 ?c10 ?k10 ?a11 ?l11 ?c11 ?k11 ?a12 ?l12 ?c12 ?k12 ?a13 ?l13 ?c13 ?k13 ?a14 ?l14 ?c14 ?k14 ?a15 ?l15 ?c15 ?k15 ?a16 ?l16 ?c16 ?k16 ?a17 ?l17 ?c17 ?k17 ?a18 ?l18 ?c18 ?k18 ?a_C ?a_C___init__ ?l_C___init__ ?c_C___init__ ?k_C___init__ ?i_C___init__ ?a_C___eq__ ?l_C___eq__ ?c_C___eq__ ?k_C___eq__ ?i_C___eq__ ?a_C___len__ ?l_C___len__ ?c_C___len__ ?k_C___len__ ?i_C___len__ ?mk_C ?pg_C ?hd_C ?po_C ?sa_C ?kc_C ?ya_C ?yb ?yc ?yd_C ?yk_C ?n_C_sizes ?n_C_ends ?n_C_total ?n_C_rests ?cf1_C ?cf2_C ?cf3_C ?cf5_C ?sr_C ?sg_C ?sf_C_even ?sc_C_even ?l_C_even ?c_C_even ?k_C_even ?sf_C_shared ?sc_C_shared ?l_C_shared ?c_C_shared ?k_C_shared ?sf_C_tapered ?sc_C_tapered ?l_C_tapered ?c_C_tapered ?k_C_tapered ?a_CL ?aZB ?iZB ?tZB ?lZB ?cZB ?eZB ?sZB ?xZB ?yZB ?kZB ?qZB ?uZB ?vZB ?wZB ?mZB ?pZB ?bZB ?zS ?tS ?oB ?nZB_value ?gZB ?hZB ?dZB ?jZB ?rZB ?k1ZB ?emZB ?kVZB ?aZT ?iZT ?tZT ?lZT ?cZT ?eZT ?sZT ?xZT ?yZT ?kZT ?qZT ?uZT ?vZT ?wZT ?mZT ?pZT ?bZT ?nZT_value ?gZT ?hZT ?dZT ?jZT ?rZT ?k1ZT ?emZT ?kVZT ?aZC ?iZC ?tZC ?lZC ?cZC ?eZC ?sZC ?xZC ?yZC ?kZC ?qZC ?uZC ?vZC ?wZC ?mZC ?pZC ?bZC ?nZC_part ?gZC ?hZC ?dZC ?jZC ?rZC ?k1ZC ?emZC ?kVZC ?aZM ?iZM ?tZM ?lZM ?cZM ?eZM ?sZM ?xZM ?yZM ?kZM ?qZM ?uZM ?vZM ?wZM ?mZM ?pZM ?bZM ?nZM_what ?nZM_most ?gZM ?hZM ?dZM ?jZM ?rZM ?k1ZM ?emZM ?kVZM ?aZN ?iZN ?tZN ?lZN ?cZN ?eZN ?sZN ?xZN ?yZN ?kZN ?qZN ?uZN ?vZN ?wZN ?mZN ?pZN ?bZN ?nZN_at ?gZN ?hZN ?dZN ?jZN ?rZN ?k1ZN ?emZN ?kVZN ?aZW ?iZW ?tZW ?lZW ?cZW ?eZW ?sZW ?xZW ?yZW ?kZW ?qZW ?uZW ?vZW ?wZW ?mZW ?pZW ?bZW ?nZW_line ?nZW_word ?gZW ?hZW ?dZW ?jZW ?rZW ?k1ZW ?emZW ?kVZW ?kMW ?kWM ?kCI ?kCS ?kCLT ?kTC ?gMS ?gMC ?gMI ?gMF ?digs ?k5CCCB ?k5CCCT ?k5CCCN ?k5CCCM ?k5CBCC ?k5CBCT ?k5CBCN ?k5CBCM ?k5CTCB ?k5CTCC ?k5CTCN ?k5CTCM ?k5CNCB ?k5CNCC ?k5CNCT ?k5CNCM ?k5CMCB ?k5CMCC ?k5CMCT ?k5CMCN ?z_isinstance ?z_int ?z_bool ?z_len ?z_abs ?z_list ?z_tuple ?z_range ?z_repr ?z_str ?z_zip ?z_min ?z_max ?z_all ?z_sorted ?z_enumerate ?z_ValueError ?hCPt ?nPPt ?hCPt1 ?nPPt1 ?hCPt2 ?nPPt2 ?tPPt ?tPPt1 ?tPPt2 ?hPd0
    (case a1 => k_is)
    (case l1 => k_is)
    (case c1 => k_is)
    (case k1 => k_is)
    (case a2 => k_is)
    (case l2 => k_is)
    (case c2 => k_is)
    (case k2 => k_is)
    (case a3 => k_is)
    (case l3 => k_is)
    (case c3 => k_is)
    (case k3 => k_is)
    (case a4 => k_is)
    (case l4 => k_is)
    (case c4 => k_is)
    (case k4 => k_is)
    (case a5 => k_is)
    (case l5 => k_is)
    (case c5 => k_is)
    (case k5 => k_is)
    (case a6 => k_is)
    (case l6 => k_is)
    (case c6 => k_is)
    (case k6 => k_is)
    (case a7 => k_is)
    (case l7 => k_is)
    (case c7 => k_is)
    (case k7 => k_is)
    (case a8 => k_is)
    (case l8 => k_is)
    (case c8 => k_is)
    (case k8 => k_is)
    (case a9 => k_is)
    (case l9 => k_is)
    (case c9 => k_is)
    (case k9 => k_is)
    (case a10 => k_is)
    (case l10 => k_is)
    (case c10 => k_is)
    (case k10 => k_is)
    (case a11 => k_is)
    (case l11 => k_is)
    (case c11 => k_is)
    (case k11 => k_is)
    (case a12 => k_is)
    (case l12 => k_is)
    (case c12 => k_is)
    (case k12 => k_is)
    (case a13 => k_is)
    (case l13 => k_is)
    (case c13 => k_is)
    (case k13 => k_is)
    (case a14 => k_is)
    (case l14 => k_is)
    (case c14 => k_is)
    (case k14 => k_is)
    (case a15 => k_is)
    (case l15 => k_is)
    (case c15 => k_is)
    (case k15 => k_is)
    (case a16 => k_is)
    (case l16 => k_is)
    (case c16 => k_is)
    (case k16 => k_is)
    (case a17 => k_is)
    (case l17 => k_is)
    (case c17 => k_is)
    (case k17 => k_is)
    (case a18 => k_is)
    (case l18 => k_is)
    (case c18 => k_is)
    (case k18 => k_is)
    (case a_C => k_is)
    (case a_C___init__ => k_is)
    (case l_C___init__ => k_is)
    (case c_C___init__ => k_is)
    (case k_C___init__ => k_is)
    (case i_C___init__ => k_is)
    (case a_C___eq__ => k_is)
    (case l_C___eq__ => k_is)
    (case c_C___eq__ => k_is)
    (case k_C___eq__ => k_is)
    (case i_C___eq__ => k_is)
    (case a_C___len__ => k_is)
    (case l_C___len__ => k_is)
    (case c_C___len__ => k_is)
    (case k_C___len__ => k_is)
    (case i_C___len__ => k_is)
    (case mk_C => k_is)
    (case pg_C => k_is)
    (case hd_C => k_is)
    (case po_C => k_is)
    (case sa_C => k_is)
    (case kc_C => k_is)
    (case ya_C => k_is)
    (case yb => k_is)
    (case yc => k_is)
    (case yd_C => k_is)
    (case yk_C => kernel_rfl)
    (case n_C_sizes => k_is)
    (case n_C_ends => k_is)
    (case n_C_total => k_is)
    (case n_C_rests => k_is)
    (case cf1_C => kernel_rfl)
    (case cf2_C => first | k_is | kernel_rfl)
    (case cf3_C => kernel_rfl)
    (case cf5_C => k_is)
    (case sr_C => k_is)
    (case sg_C => k_is)
    (case sf_C_even => k_is)
    (case sc_C_even => k_is)
    (case l_C_even => k_is)
    (case c_C_even => k_is)
    (case k_C_even => k_is)
    (case sf_C_shared => k_is)
    (case sc_C_shared => k_is)
    (case l_C_shared => k_is)
    (case c_C_shared => k_is)
    (case k_C_shared => k_is)
    (case sf_C_tapered => k_is)
    (case sc_C_tapered => k_is)
    (case l_C_tapered => k_is)
    (case c_C_tapered => k_is)
    (case k_C_tapered => k_is)
    (case a_CL => k_is)
    (case aZB => k_is)
    (case iZB => k_is)
    (case tZB => k_is)
    (case lZB => k_is)
    (case cZB => k_is)
    (case eZB => exact ⟨_, _, _, _, _, _, _, _, _, _, _, _, _, _, _, by k_is, by decide +kernel⟩)
    (case sZB => k_is)
    (case xZB => k_is)
    (case yZB => k_is)
    (case kZB => k_is)
    (case qZB => k_is)
    (case uZB => k_is)
    (case vZB => rfl)
    (case wZB => first | rfl | decide +kernel)
    (case mZB => k_is)
    (case pZB => first | k_is | kernel_rfl)
    (case bZB => k_is)
    (case zS => k_is)
    (case tS => first | rfl | decide +kernel | kernel_rfl)
    (case oB => k_is)
    (case nZB_value => k_is)
    (case gZB => k_is)
    (case hZB => k_is)
    (case dZB => k_is)
    (case jZB => k_is)
    (case rZB => k_is)
    (case k1ZB => kernel_rfl)
    (case emZB => kernel_rfl)
    (case kVZB => kernel_rfl)
    (case aZT => k_is)
    (case iZT => k_is)
    (case tZT => k_is)
    (case lZT => k_is)
    (case cZT => k_is)
    (case eZT => exact ⟨_, _, _, _, _, _, _, _, _, _, _, _, _, _, _, by k_is, by decide +kernel⟩)
    (case sZT => k_is)
    (case xZT => k_is)
    (case yZT => k_is)
    (case kZT => k_is)
    (case qZT => k_is)
    (case uZT => k_is)
    (case vZT => rfl)
    (case wZT => first | rfl | decide +kernel)
    (case mZT => k_is)
    (case pZT => first | k_is | kernel_rfl)
    (case bZT => k_is)
    (case nZT_value => k_is)
    (case gZT => k_is)
    (case hZT => k_is)
    (case dZT => k_is)
    (case jZT => k_is)
    (case rZT => k_is)
    (case k1ZT => kernel_rfl)
    (case emZT => kernel_rfl)
    (case kVZT => kernel_rfl)
    (case aZC => k_is)
    (case iZC => k_is)
    (case tZC => k_is)
    (case lZC => k_is)
    (case cZC => k_is)
    (case eZC => exact ⟨_, _, _, _, _, _, _, _, _, _, _, _, _, _, _, by k_is, by decide +kernel⟩)
    (case sZC => k_is)
    (case xZC => k_is)
    (case yZC => k_is)
    (case kZC => k_is)
    (case qZC => k_is)
    (case uZC => k_is)
    (case vZC => rfl)
    (case wZC => first | rfl | decide +kernel)
    (case mZC => k_is)
    (case pZC => first | k_is | kernel_rfl)
    (case bZC => k_is)
    (case nZC_part => k_is)
    (case gZC => k_is)
    (case hZC => k_is)
    (case dZC => k_is)
    (case jZC => k_is)
    (case rZC => k_is)
    (case k1ZC => kernel_rfl)
    (case emZC => kernel_rfl)
    (case kVZC => kernel_rfl)
    (case aZM => k_is)
    (case iZM => k_is)
    (case tZM => k_is)
    (case lZM => k_is)
    (case cZM => k_is)
    (case eZM => exact ⟨_, _, _, _, _, _, _, _, _, _, _, _, _, _, _, by k_is, by decide +kernel⟩)
    (case sZM => k_is)
    (case xZM => k_is)
    (case yZM => k_is)
    (case kZM => k_is)
    (case qZM => k_is)
    (case uZM => k_is)
    (case vZM => rfl)
    (case wZM => first | rfl | decide +kernel)
    (case mZM => k_is)
    (case pZM => first | k_is | kernel_rfl)
    (case bZM => k_is)
    (case nZM_what => k_is)
    (case nZM_most => k_is)
    (case gZM => k_is)
    (case hZM => k_is)
    (case dZM => k_is)
    (case jZM => k_is)
    (case rZM => k_is)
    (case k1ZM => kernel_rfl)
    (case emZM => kernel_rfl)
    (case kVZM => kernel_rfl)
    (case aZN => k_is)
    (case iZN => k_is)
    (case tZN => k_is)
    (case lZN => k_is)
    (case cZN => k_is)
    (case eZN => exact ⟨_, _, _, _, _, _, _, _, _, _, _, _, _, _, _, by k_is, by decide +kernel⟩)
    (case sZN => k_is)
    (case xZN => k_is)
    (case yZN => k_is)
    (case kZN => k_is)
    (case qZN => k_is)
    (case uZN => k_is)
    (case vZN => rfl)
    (case wZN => first | rfl | decide +kernel)
    (case mZN => k_is)
    (case pZN => first | k_is | kernel_rfl)
    (case bZN => k_is)
    (case nZN_at => k_is)
    (case gZN => k_is)
    (case hZN => k_is)
    (case dZN => k_is)
    (case jZN => k_is)
    (case rZN => k_is)
    (case k1ZN => kernel_rfl)
    (case emZN => kernel_rfl)
    (case kVZN => kernel_rfl)
    (case aZW => k_is)
    (case iZW => k_is)
    (case tZW => k_is)
    (case lZW => k_is)
    (case cZW => k_is)
    (case eZW => exact ⟨_, _, _, _, _, _, _, _, _, _, _, _, _, _, _, by k_is, by decide +kernel⟩)
    (case sZW => k_is)
    (case xZW => k_is)
    (case yZW => k_is)
    (case kZW => k_is)
    (case qZW => k_is)
    (case uZW => k_is)
    (case vZW => rfl)
    (case wZW => first | rfl | decide +kernel)
    (case mZW => k_is)
    (case pZW => first | k_is | kernel_rfl)
    (case bZW => k_is)
    (case nZW_line => k_is)
    (case nZW_word => k_is)
    (case gZW => k_is)
    (case hZW => k_is)
    (case dZW => k_is)
    (case jZW => k_is)
    (case rZW => k_is)
    (case k1ZW => kernel_rfl)
    (case emZW => kernel_rfl)
    (case kVZW => kernel_rfl)
    (case kMW => kernel_rfl)
    (case kWM => kernel_rfl)
    (case kCI => kernel_rfl)
    (case kCS => kernel_rfl)
    (case kCLT => kernel_rfl)
    (case kTC => kernel_rfl)
    (case gMS => k_is)
    (case gMC => k_is)
    (case gMI => k_is)
    (case gMF => k_is)
    (case digs => k_is)
    (case k5CCCB => kernel_rfl)
    (case k5CCCT => kernel_rfl)
    (case k5CCCN => kernel_rfl)
    (case k5CCCM => kernel_rfl)
    (case k5CBCC => kernel_rfl)
    (case k5CBCT => kernel_rfl)
    (case k5CBCN => kernel_rfl)
    (case k5CBCM => kernel_rfl)
    (case k5CTCB => kernel_rfl)
    (case k5CTCC => kernel_rfl)
    (case k5CTCN => kernel_rfl)
    (case k5CTCM => kernel_rfl)
    (case k5CNCB => kernel_rfl)
    (case k5CNCC => kernel_rfl)
    (case k5CNCT => kernel_rfl)
    (case k5CNCM => kernel_rfl)
    (case k5CMCB => kernel_rfl)
    (case k5CMCC => kernel_rfl)
    (case k5CMCT => kernel_rfl)
    (case k5CMCN => kernel_rfl)
    (case z_isinstance => k_is)
    (case z_int => k_is)
    (case z_bool => k_is)
    (case z_len => k_is)
    (case z_abs => k_is)
    (case z_list => k_is)
    (case z_tuple => k_is)
    (case z_range => k_is)
    (case z_repr => k_is)
    (case z_str => k_is)
    (case z_zip => k_is)
    (case z_min => k_is)
    (case z_max => k_is)
    (case z_all => k_is)
    (case z_sorted => k_is)
    (case z_enumerate => k_is)
    (case z_ValueError => k_is)
    (case hCPt => kernel_rfl)
    (case nPPt => kernel_rfl)
    (case hCPt1 => kernel_rfl)
    (case nPPt1 => kernel_rfl)
    (case hCPt2 => kernel_rfl)
    (case nPPt2 => kernel_rfl)
    (case tPPt => first | exact PySem.W.km_tabs_of Y _ (by k_mem) | (trace_state; exact PySem.W.km_tabs_of Y _ (by k_mem)))
    (case tPPt1 => first | exact PySem.W.km_tabs_of Y _ (by k_mem) | (trace_state; exact PySem.W.km_tabs_of Y _ (by k_mem)))
    (case tPPt2 => first | exact PySem.W.km_tabs_of Y _ (by k_mem) | (trace_state; exact PySem.W.km_tabs_of Y _ (by k_mem)))
    (case hPd0 => decide)
end
