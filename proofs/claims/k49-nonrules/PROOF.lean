import PyProof.Rows.All
import Wide.All
import OpenK.AllK
import Wide.FinOn
import HandS.ForMost
import HandS.Wide
import HandS.IsInst
import HandS.Defaults
import HandS.Evl
import HandS.EndTab
import HandS.Lambda
import HandS.Style
import HandS.Steps
import HandS.Text
import PyProof.ReprRoads
import PyProof.ListStr
import PyProof.StrOps2
import HandS.Walk
import HandS.ExcInit
import HandS.Nested
import HandS.ExcValue
import KE.KExcSuper
import HandS.ExcIs
import HandS.ExcField
import KE.KOpsOwn
import HandS.Head0
import HandS.Head1
import HandS.Head2
import HandS.Head3
import KE.KNestM
import PySem.Challenge.RW_latechunks_k49_texts_that_are_no_rules
import PyProof.Rows.Range3
import PyProof.Conv_bool
import HandS.HotCalls
import PyProof.EqAt
import HandS.ClsMeth
import HandS.MakeKwOnly
import HandS.FStr
import KE.KCallOwn
import PyProof.Rows.StrOr
import PyProof.TypeEq
import HandS.DeepEq
import KE.KEqDict
import HandS.Star
import HandS.Zip
import HandS.Flow
import HandS.TupMul
import OpenK.KOps
import HandS.TupAny
import HandS.SortInts
import HandS.IterVal
import OpenK.KMeth
import KE.KOwnIter
import PyProof.SliceList
import PyProof.IsiBase
import HandS.OwnEq
import HandS.Gcd
import KE.KFmtOwn
import PyProof.CallStr
import HandS.Deep
set_option Elab.async false
set_option linter.all false
set_option maxRecDepth 100000
set_option maxHeartbeats 4000000
section
namespace L3
open PySem PySem.Spec PyProof.Rows L2
def PenO (a c : Addr) (n : Nat) : HO := .ext fun h => ∃ (spot rest : Int) (t u : Tok) (k : Nat),
  h.get? a = some { cls := .type "list", data := .seq #[.ref c, .int spot t, .int rest u] k } ∧ 0 ≤ spot ∧ spot ≤ n
theorem PenO_ok {P : Program} {w : World} {H : Hp} {h : Heap} {a c : Addr} {n : Nat} {spot rest : Int} {t u : Tok} {k : Nat}
    (e : h.get? a = some { cls := .type "list", data := .seq #[.ref c, .int spot t, .int rest u] k }) (h0 : 0 ≤ spot) (h1 : spot ≤ n) :
    ObjOk P w H h a (PenO a c n) :=
  ⟨⟨spot, rest, t, u, k, e, h0, h1⟩, ⟨_, e⟩, fun _ _ ⟨s, r, t, u, k, q, z⟩ f => ⟨s, r, t, u, k, f _ q, z⟩⟩
section
variable {X : Cx} {pins : List (Addr × Obj)} {σ : L2.St} {H : Hp} {s : Shared}
theorem Inv.penOpen {a c : Addr} {n : Nat} (I : Inv X pins σ H s) (h : H a = some (PenO a c n)) :
    ∃ spot rest : Int, 0 ≤ spot ∧ spot ≤ n ∧ Inv X pins σ (upd H a (.lst [.ref c, .int spot, .int rest])) s := by
  obtain ⟨⟨spot, rest, t, u, k, e, h0, h1⟩, _, _⟩ := (show ObjOk X.prog X.w H s.heap a (PenO a c n) from I.hok a _ h)
  refine ⟨spot, rest, h0, h1, ?_⟩
  have mu : Mut (H a) := by rw [h]; exact True.intro
  have := I.write (t' := s.toks) (h' := s.heap) (x := a) (e := a) (o := .lst [.ref c, .int spot, .int rest]) mu (.inl rfl) (fun _ _ _ q => q) ⟨_, e⟩
    ⟨(by rw [sizeLine_eq]; show 3 ≤ 16777216; decide), [.ref c, .int spot t, .int rest u], k, .cons rfl (.cons ⟨t, rfl⟩ (.cons ⟨u, rfl⟩ .nil)), e⟩
  exact this
theorem vals3 {x y z : V} {us : List Value} (r : Vals [x, y, z] us) : ∃ u v w, us = [u, v, w] ∧ RelV x u ∧ RelV y v ∧ RelV z w := by
  cases r with
  | cons r1 r =>
    cases r with
    | cons r2 r =>
      cases r with
      | cons r3 r =>
        cases r
        exact ⟨_, _, _, rfl, r1, r2, r3⟩
theorem Inv.penClose {a c : Addr} {n : Nat} {spot rest : Int} (I : Inv X pins σ H s) (h : H a = some (.lst [.ref c, .int spot, .int rest])) (h0 : 0 ≤ spot) (h1 : spot ≤ n) :
    Inv X pins σ (upd H a (PenO a c n)) s := by
  obtain ⟨_, its, k, r, e⟩ := (show ObjOk X.prog X.w H s.heap a (.lst _) from I.hok a _ h)
  obtain ⟨u, v, w, rfl, r1, ⟨t, r2⟩, ⟨t', r3⟩⟩ := vals3 r
  cases (show u = .ref c from r1)
  subst r2 r3
  have mu : Mut (H a) := by rw [h]; exact True.intro
  exact I.write (t' := s.toks) (h' := s.heap) (x := a) (e := a) (o := PenO a c n) mu (.inl rfl) (fun _ _ _ q => q) ⟨_, e⟩ (PenO_ok e h0 h1)
end
/-- inside: the list is known, behind: it is hidden again -/
def penBack (a c : Addr) (n : Nat) (P : Hp → Prop) (H : Hp) : Prop := ∃ spot rest : Int, H a = some (.lst [.ref c, .int spot, .int rest]) ∧ 0 ≤ spot ∧ spot ≤ n ∧ P (upd H a (PenO a c n))
def tPen (a c : Addr) (n m : Nat) (t : TS) : TS := fun D σ H => H a = some (PenO a c n) ∧ ∀ spot rest : Int, 0 ≤ spot → spot ≤ n →
  t { nx := fun σ' => penBack a c m (D.nx σ'), rt := fun v => penBack a c m (D.rt v), bk := fun σ' => penBack a c m (D.bk σ'), ct := fun σ' => penBack a c m (D.ct σ') } σ (upd H a (.lst [.ref c, .int spot, .int rest]))
theorem pss_pen {X : Cx} {sts : List Stmt} {t : TS} (a c : Addr) (n m : Nat) (h : PSs X sts t) : PSs X sts (tPen a c n m t) := by
  refine ⟨fun pins s σ H D I hw => ?_⟩
  obtain ⟨ha, hw⟩ := hw
  obtain ⟨spot, rest, h0, h1, I1⟩ := Inv.penOpen I ha
  refine thn (h.run pins s σ _ _ I1 (hw spot rest h0 h1)) fun f s' q => ?_
  cases f with
  | next =>
    obtain ⟨σ', H', I', sp, re, e, g0, g1, z⟩ := q
    exact ⟨σ', _, Inv.penClose I' e g0 g1, z⟩
  | brk =>
    obtain ⟨σ', H', I', sp, re, e, g0, g1, z⟩ := q
    exact ⟨σ', _, Inv.penClose I' e g0 g1, z⟩
  | cont =>
    obtain ⟨σ', H', I', sp, re, e, g0, g1, z⟩ := q
    exact ⟨σ', _, Inv.penClose I' e g0 g1, z⟩
  | ret u =>
    obtain ⟨v, σ', H', I', r, sp, re, e, g0, g1, z⟩ := q
    exact ⟨v, σ', _, Inv.penClose I' e g0 g1, r, z⟩
end L3
namespace L3
open PySem PySem.Spec PyProof.Rows L2
section
variable {σ : L2.St} {H : Hp} {D : Ends} {t u : TS} {te ta tb : TE} {Q : VK} {v x y : V} {K : PySem.W.Frag}
theorem iteB {b : Bool} {A B : Prop} (h1 : b = true → A) (h2 : b = false → B) : if b = true then A else B := by
  cases b with
  | true => exact iteT (h1 rfl)
  | false => exact iteF (h2 rfl)
theorem iteD {c : Prop} {_ : Decidable c} {A B : Prop} (h1 : c → A) (h2 : ¬ c → B) : if decide c = true then A else B := iteB (fun h => h1 (of_decide_eq_true h)) (fun h => h2 (of_decide_eq_false h))
theorem iteND {c : Prop} {_ : Decidable c} {A B : Prop} (h1 : ¬ c → A) (h2 : c → B) : if (!decide c) = true then A else B := iteB (fun h => h1 (by simpa using h)) (fun h => h2 (by simpa using h))
theorem s_seq (h : t { D with nx := u D } σ H) : tSeq t u D σ H := h
theorem s_next (h : D.nx σ H) : tNext D σ H := h
theorem s_asg {i : Nat} (h : te σ H fun x H1 => D.nx (σ.set i (some x)) H1) : tAsg te (gName i) D σ H := h
theorem s_asgS {to ti : TE} {t : TSet} (h : te σ H fun v H1 => to σ H1 fun o H2 => ti σ H2 fun i H3 => t o i v H3 fun H4 => D.nx σ H4) : tAsg te (gSub to ti t) D σ H := h
theorem s_drop (h : te σ H fun _ H1 => D.nx σ H1) : tDrop te D σ H := h
theorem s_ret (h : te σ H D.rt) : tRet te D σ H := h
theorem s_retN (h : D.rt .non H) : tRetN D σ H := h
theorem s_if {c : TT} (h : c σ H fun b H1 => if b = true then t D σ H1 else u D σ H1) : tIfS c t u D σ H := h
theorem s_var {i : Nat} (e : σ[i]? = some (some v)) (h : Q v H) : tVar i σ H Q := ⟨v, e, h⟩
theorem s_c (h : Q v H) : tC v σ H Q := h
theorem s_op {r : R2} (h : ta σ H fun x H1 => tb σ H1 fun y H2 => r x y H2 Q) : tOp r ta tb σ H Q := h
theorem s_un {r : V → Hp → VK → Prop} (h : ta σ H fun x H1 => r x H1 Q) : tUn r ta σ H Q := h
theorem s_cb {r : List V → Hp → VK → Prop} {tt : TA} (h : tt σ H fun vs H1 => r vs H1 Q) : tCB r tt σ H Q := h
theorem s_nil {Q : List V → Hp → Prop} (h : Q [] H) : tNil σ H Q := h
theorem s_cons {Q : List V → Hp → Prop} {tr : TA} (h : ta σ H fun x H1 => tr σ H1 fun xs H2 => Q (x :: xs) H2) : tCons ta tr σ H Q := h
theorem s_test {Q : Bool → Hp → Prop} (h : te σ H fun x H' => ∃ k, x = .bl k ∧ Q k H') : tTest te σ H Q := h
theorem s_tB {Q : Bool → Hp → Prop} (h : te σ H fun x H' => ∃ k, x = .bl k ∧ Q k H') : tB te σ H Q := h
theorem s_bl {R : Bool → Prop} {b : Bool} (h : R b) : ∃ k, V.bl b = .bl k ∧ R k := ⟨b, rfl, h⟩
theorem s_and {c d : TT} {Q : Bool → Hp → Prop} (h : c σ H fun b H1 => if b = true then d σ H1 Q else Q false H1) : tAnd c d σ H Q := h
theorem s_or {c d : TT} {Q : Bool → Hp → Prop} (h : c σ H fun b H1 => if b = true then Q true H1 else d σ H1 Q) : tOr c d σ H Q := h
theorem s_not {c : TT} {Q : Bool → Hp → Prop} (h : c σ H fun b H1 => Q (!b) H1) : tNot c σ H Q := h
theorem s_andV (h : ta σ H fun x H1 => ∃ c, x = .bl c ∧ if c = true then tb σ H1 Q else Q (.bl false) H1) : tAndV ta tb σ H Q := h
theorem s_orV (h : ta σ H fun x H1 => ∃ c, x = .bl c ∧ if c = true then Q (.bl true) H1 else tb σ H1 Q) : tOrV ta tb σ H Q := h
theorem s_notV (h : ta σ H fun x H1 => ∃ c, x = .bl c ∧ Q (.bl (!c)) H1) : tNotV ta σ H Q := h
theorem s_ifE {c : TT} (h : c σ H fun b H1 => if b = true then ta σ H1 Q else tb σ H1 Q) : tIf c ta tb σ H Q := h
theorem s_call {sp : Sp} {dvs : List V} {E : XK} {tt : TA} (h : tt σ H fun vs H1 => sp (vs ++ dvs) H1 Q E) : tCall sp dvs E tt σ H Q := h
theorem s_I0 {g : Int → Int → V} {i j : Int} (h : Q (g i j) H) : rI0 g (.int i) (.int j) H Q := ⟨i, j, rfl, rfl, h⟩
theorem s_I {C : Int → Int → Prop} {g : Int → Int → V} {i j : Int} (c : C i j) (h : Q (g i j) H) : rI C g (.int i) (.int j) H Q := ⟨i, j, rfl, rfl, c, h⟩
theorem s_U {g : Int → V} {i : Int} (h : Q (g i) H) : rU g (.int i) H Q := ⟨i, rfl, h⟩
theorem s_setL {p : Addr} {xs : List V} {i : Int} {j : Nat} {R : Hp → Prop} (hp : H p = some (.lst xs)) (e : ixN xs.length i = some j) (h : R (upd H p (.lst (xs.set j v)))) : rSetL (.ref p) (.int i) v H R := ⟨p, xs, i, j, rfl, rfl, hp, e, h⟩
theorem s_int {R : Int → Prop} {R' : Bool → Prop} {i : Int} (h : R i) : (∃ j, [V.int i] = [V.int j] ∧ R j) ∨ ∃ k, [V.int i] = [V.bl k] ∧ R' k := .inl ⟨i, rfl, h⟩
theorem s_intB {R : Int → Prop} {R' : Bool → Prop} {b : Bool} (h : R' b) : (∃ j, [V.bl b] = [V.int j] ∧ R j) ∨ ∃ k, [V.bl b] = [V.bl k] ∧ R' k := .inr ⟨b, rfl, h⟩
theorem s_abs {R : Int → Prop} {i : Int} (h : R i) : ∃ j, [V.int i] = [V.int j] ∧ R j := ⟨i, rfl, h⟩
theorem s_lenL {R : Nat → Prop} {p : Addr} {xs : List V} (hp : H p = some (.lst xs)) (h : R xs.length) : ∃ x n, [V.ref p] = [x] ∧ LenV K x H n ∧ R n := ⟨_, _, rfl, .inl ⟨xs, .inl (.inl hp), rfl⟩, h⟩
theorem s_lenS {R : Nat → Prop} {z : Str} (hz : z.length ≤ sizeLine) (h : R z.length) : ∃ x n, [V.str z] = [x] ∧ LenV K x H n ∧ R n := ⟨_, _, rfl, ⟨hz, rfl⟩, h⟩
/-- all that is tracked stays -/
theorem ex_new {p : Addr} {o : HO} (h : H p = none) : ∀ b u, H b = some u → upd H p o b = some u := fun b u e => by
  rw [upd_ne (ne_of_none e h)]; exact e
def Ex (H H' : Hp) : Prop := ∀ b o, H b = some o → H' b = some o
theorem Ex.refl (H : Hp) : Ex H H := fun _ _ h => h
theorem Ex.trans {H H1 H2 : Hp} (a : Ex H H1) (b : Ex H1 H2) : Ex H H2 := fun x o h => b x o (a x o h)
theorem Ex.free {H H' : Hp} (e : Ex H H') {p : Addr} (h : H' p = none) : H p = none := by
  cases q : H p with
  | none => rfl
  | some o => rw [e _ _ q] at h; cases h
/-- what is wanted of a new thing (kept from being reduced) -/
def ap (Q : VK) (v : V) (H : Hp) : Prop := Q v H
theorem s_lst {tt : TA} (h : tt σ H fun xs H1 => xs.length ≤ sizeLine ∧ ∀ p, H1 p = none → ap Q (.ref p) (upd H1 p (.lst xs))) : tLst tt σ H Q := h
theorem s_tup {tt : TA} (h : tt σ H fun xs H1 => xs.length ≤ sizeLine ∧ ∀ p, H1 p = none → ap Q (.ref p) (upd H1 p (.tup xs))) : tTup tt σ H Q := h
theorem s_new {o : HO} {n : Nat} (hz : n ≤ sizeLine) (h : ∀ p H2, H p = none → Ex H H2 → H2 p = some o → Q (.ref p) H2) : n ≤ sizeLine ∧ ∀ p, H p = none → ap Q (.ref p) (upd H p o) :=
  ⟨hz, fun p hp => h p _ hp (ex_new hp) upd_same⟩
theorem s_cut {M : L2.St → Hp → Prop} (h : t { D with nx := M } σ H) (k : ∀ σ' H', M σ' H' → u D σ' H') : Evl.tCut t u D σ H := ⟨M, h, k⟩
theorem dpInts {H : Hp} : ∀ ns : List Int, DpAll K H (ns.map V.int) (ns.map PyData.int)
  | [] => .nil
  | _ :: r => .cons (.int _) (dpInts r)
theorem s_neD {d e : PyData} (hd : Dp K H x d) (he : Dp K H y e) (sd : SeqAt.shaped d = true) (se : SeqAt.shaped e = true) (h : Q (.bl (!PyData.eqv d e)) H) : rNeD K x y H Q := ⟨d, e, hd, he, sd, se, h⟩
theorem s_eqD {d e : PyData} (hd : Dp K H x d) (he : Dp K H y e) (sd : SeqAt.shaped d = true) (se : SeqAt.shaped e = true) (h : Q (.bl (PyData.eqv d e)) H) : rEqD K x y H Q := ⟨d, e, hd, he, sd, se, h⟩
end
end L3
namespace L3
open PySem PySem.Spec PyProof.Rows L2
def lim : Nat := 1000000
/-- the pen's cells: a list of numbers, hidden too -/
def ScO (c : Addr) (ns : List Int) : HO := .ext fun h => ∃ (its : List Value) (k : Nat), (ns.map V.int).length ≤ sizeLine ∧ Vals (ns.map V.int) its ∧ h.get? c = some { cls := .type "list", data := .seq its.toArray k }
section
variable {X : Cx} {pins : List (Addr × Obj)} {σ : L2.St} {H : Hp} {s : Shared}
theorem Inv.scOpen {c : Addr} {ns : List Int} (I : Inv X pins σ H s) (h : H c = some (ScO c ns)) : Inv X pins σ (upd H c (.lst (ns.map V.int))) s := by
  obtain ⟨⟨its, k, hz, r, e⟩, _, _⟩ := (show ObjOk X.prog X.w H s.heap c (ScO c ns) from I.hok c _ h)
  have mu : Mut (H c) := by rw [h]; exact True.intro
  exact I.write (t' := s.toks) (h' := s.heap) (x := c) (e := c) (o := .lst (ns.map V.int)) mu (.inl rfl) (fun _ _ _ q => q) ⟨_, e⟩ ⟨hz, its, k, r, e⟩
theorem Inv.scClose {c : Addr} {ns : List Int} (I : Inv X pins σ H s) (h : H c = some (.lst (ns.map V.int))) : Inv X pins σ (upd H c (ScO c ns)) s := by
  obtain ⟨hz, its, k, r, e⟩ := (show ObjOk X.prog X.w H s.heap c (.lst _) from I.hok c _ h)
  have mu : Mut (H c) := by rw [h]; exact True.intro
  exact I.write (t' := s.toks) (h' := s.heap) (x := c) (e := c) (o := ScO c ns) mu (.inl rfl) (fun _ _ _ q => q) ⟨_, e⟩
    ⟨⟨its, k, hz, r, e⟩, ⟨_, e⟩, fun _ _ ⟨i, k, z, r, q⟩ f => ⟨i, k, z, r, f _ q⟩⟩
end
def scBack (c : Addr) (ns : List Int) (P : Hp → Prop) (H : Hp) : Prop := H c = some (.lst (ns.map V.int)) ∧ P (upd H c (ScO c ns))
def tSc (c : Addr) (ns : List Int) (t : TS) : TS := fun D σ H => H c = some (ScO c ns) ∧
  t { nx := fun σ' => scBack c ns (D.nx σ'), rt := fun v => scBack c ns (D.rt v), bk := fun σ' => scBack c ns (D.bk σ'), ct := fun σ' => scBack c ns (D.ct σ') } σ (upd H c (.lst (ns.map V.int)))
theorem pss_sc {X : Cx} {sts : List Stmt} {t : TS} (c : Addr) (ns : List Int) (h : PSs X sts t) : PSs X sts (tSc c ns t) := by
  refine ⟨fun pins s σ H D I hw => ?_⟩
  obtain ⟨ha, hw⟩ := hw
  refine thn (h.run pins s σ _ _ (Inv.scOpen I ha) hw) fun f s' q => ?_
  cases f with
  | next =>
    obtain ⟨σ', H', I', e, z⟩ := q
    exact ⟨σ', _, Inv.scClose I' e, z⟩
  | brk =>
    obtain ⟨σ', H', I', e, z⟩ := q
    exact ⟨σ', _, Inv.scClose I' e, z⟩
  | cont =>
    obtain ⟨σ', H', I', e, z⟩ := q
    exact ⟨σ', _, Inv.scClose I' e, z⟩
  | ret u =>
    obtain ⟨v, σ', H', I', r, e, z⟩ := q
    exact ⟨v, σ', _, Inv.scClose I' e, r, z⟩
def Pen (H : Hp) (a : Addr) (n : Nat) : Prop := ∃ c ns, H a = some (PenO a c n) ∧ H c = some (ScO c ns) ∧ ns.length ≤ 63 ∧ c ≠ a
def NoTbl : HO → Prop
  | .tbl _ => False
  | _ => True
/-- all but the pen at a and the tables of code objects stays -/
def Xt (a : Addr) (H H' : Hp) : Prop := ∀ b o, b ≠ a → NoTbl o → H b = some o → H' b = some o
abbrev rInt1 : List V → Hp → VK → Prop := fun xs H Q => (∃ i, xs = [V.int i] ∧ Q (V.int i) H) ∨ ∃ k, xs = [V.bl k] ∧ Q (V.int (if k then 1 else 0)) H
abbrev rLen1 (K : PySem.W.Frag) : List V → Hp → VK → Prop := fun xs H Q => ∃ x n, xs = [x] ∧ LenV K x H n ∧ Q (V.int ((n : Nat) : Int)) H
abbrev rAbs1 : List V → Hp → VK → Prop := fun xs H Q => ∃ i, xs = [V.int i] ∧ Q (V.int (if i < 0 then -i else i)) H
/-- == and != of flat things, or of data -/
def rEqU (K : PySem.W.Frag) : R2 := fun x y H Q => rEq x y H Q ∨ rEqD K x y H Q
def rNeU (K : PySem.W.Frag) : R2 := fun x y H Q => rNe x y H Q ∨ rNeD K x y H Q
theorem dec_eqI (i j : Int) : decide (V.int i = V.int j) = decide (i = j) := by
  by_cases h : i = j
  · subst h; simp
  · rw [decide_eq_false h, decide_eq_false (fun z => h (V.int.inj z))]
theorem dec_eqS (i j : Str) : decide (V.str i = V.str j) = decide (i = j) := by
  by_cases h : i = j
  · subst h; simp
  · rw [decide_eq_false h, decide_eq_false (fun z => h (V.str.inj z))]
section
variable {K : PySem.W.Frag} {H : Hp} {Q : VK} {x y : V}
theorem s_eqI {i j : Int} (h : Q (.bl (decide (i = j))) H) : rEqU K (.int i) (.int j) H Q := .inl ⟨rfl, by rw [dec_eqI]; exact h⟩
theorem s_neI {i j : Int} (h : Q (.bl (!decide (i = j))) H) : rNeU K (.int i) (.int j) H Q := .inl ⟨rfl, by rw [dec_eqI]; exact h⟩
theorem s_eqS {i j : Str} (h : Q (.bl (decide (i = j))) H) : rEqU K (.str i) (.str j) H Q := .inl ⟨rfl, by rw [dec_eqS]; exact h⟩
theorem s_neS {i j : Str} (h : Q (.bl (!decide (i = j))) H) : rNeU K (.str i) (.str j) H Q := .inl ⟨rfl, by rw [dec_eqS]; exact h⟩
theorem s_neD' {d e : PyData} (hd : Dp K H x d) (he : Dp K H y e) (sd : SeqAt.shaped d = true) (se : SeqAt.shaped e = true) (h : Q (.bl (!PyData.eqv d e)) H) : rNeU K x y H Q := .inr ⟨d, e, hd, he, sd, se, h⟩
end
end L3
end
section
namespace L3
open PySem PySem.Spec PyProof.Rows L2
structure FnG (P : Program) (w : World) (K : PySem.W.Frag) (mg : Str → Option Value) (base : Heap) (CX : CXT) (k : Nat) (f : Addr) (fd : FuncData) (ps : List Str) (sp : Sp) : Prop where
  len : ∀ vs H Q E, sp vs H Q E → vs.length = ps.length
  run : ∀ (A : Around) (fr : List Env) (s : Shared) (H : Hp) (as : Args) (us : List Value) (vs : List V) (Q : VK) (E : XK), Room k A → A.guards = some [] → Env0 P w K mg base A fr s H →
    BindsTo s fd as (ps.zip us) → Vals vs us → sp vs H Q E → codeAny (model P w) A (.call (.ref f) as) (CR CX fr P w H s Q E) s
theorem FnG.of {P : Program} {w : World} {K : PySem.W.Frag} {mg : Str → Option Value} {base : Heap} {CX : CXT} {k : Nat} {f : Addr} {fd : FuncData} {ps : List Str} {sp : Sp} (F : FnOk P w K mg base CX k f fd ps sp) : FnG P w K mg base CX k f fd ps sp :=
  ⟨F.len, fun A fr s H as us vs Q E r _ => F.run A fr s H as us vs Q E r⟩
/-- THE RULE for such a def -/
theorem funG {P : Program} {w : World} {K : PySem.W.Frag} {mg : Str → Option Value} {base : Heap} {CX : CXT} {x qual : Str} {st : Stmt} {f : Addr} {fd : FuncData} {N ps : List Str} {k : Nat} {sp : Sp}
    (F : Fun K x qual st f fd) (S : FnScope N ps (defScope st)) (len : ∀ vs H Q E, sp vs H Q E → vs.length = ps.length)
    (body : ∀ (cd : Value) (A : Around) (fr : List Env) (s : Shared) (H : Hp) (vs : List V) (Q : VK) (E : XK), Room k (A.deeper (envOfC qual (defScope st) s.heap.objs.size f cd)) → A.guards = some [] → sp vs H Q E →
      ∃ t, PSs (cxOf CX P w K mg base N qual (defScope st) f cd A fr s H E) (defBody st) t ∧ t { nx := fun _ H' => Q .non H', rt := Q } (L2.start N vs) H) :
    FnG P w K mg base CX (k + 1) f fd ps sp := by
  obtain ⟨oc, od, kV, doc, pm, an, cd, ct, sl, rfl, lk, hcd⟩ := F.ex
  exact ⟨len, fun A fr s H as us vs Q E hr hg e0 hb r h => LamX.run_ofS lk hcd S hr e0 hb r (len _ _ _ _ h) fun hr' => body cd A fr s H vs Q E hr' hg h⟩
/-- a def whose code object is known (it makes lambdas) -/
structure FunC (K : PySem.W.Frag) (x qual : Str) (st : Stmt) (c f : Addr) (fd : FuncData) : Prop where
  ex : ∃ (oc : Value) (od : Option Addr) (kV doc pm : Value) (an : Option Addr) (ct : Value) (osl : Array (Option Value)),
    fd = PySem.W.fnOf x qual (defArgs st) (defBody st) (defScope st) .none kV doc pm an (.ref c) ct ∧ K.lookup f = some ⟨oc, od, .func fd, osl⟩ ∧ PySem.W.codeIn K (.ref c) qual = true
theorem FunC.fun {K : PySem.W.Frag} {x qual : Str} {st : Stmt} {c f : Addr} {fd : FuncData} (F : FunC K x qual st c f fd) (k : PySem.W.keepIn K (.ref f) = true) : Fun K x qual st f fd := by
  obtain ⟨oc, od, kV, doc, pm, an, ct, sl, e, l, h⟩ := F.ex
  exact ⟨⟨oc, od, kV, doc, pm, an, .ref c, ct, sl, e, l, h⟩, k⟩
theorem funGC {P : Program} {w : World} {K : PySem.W.Frag} {mg : Str → Option Value} {base : Heap} {CX : CXT} {x qual : Str} {st : Stmt} {c f : Addr} {fd : FuncData} {N ps : List Str} {k : Nat} {sp : Sp}
    (F : FunC K x qual st c f fd) (S : FnScope N ps (defScope st)) (len : ∀ vs H Q E, sp vs H Q E → vs.length = ps.length)
    (body : ∀ (A : Around) (fr : List Env) (s : Shared) (H : Hp) (vs : List V) (Q : VK) (E : XK), Room k (A.deeper (envOfC qual (defScope st) s.heap.objs.size f (.ref c))) → A.guards = some [] → sp vs H Q E →
      ∃ t, PSs (cxOf CX P w K mg base N qual (defScope st) f (.ref c) A fr s H E) (defBody st) t ∧ t { nx := fun _ H' => Q .non H', rt := Q } (L2.start N vs) H) :
    FnG P w K mg base CX (k + 1) f fd ps sp := by
  obtain ⟨oc, od, kV, doc, pm, an, ct, sl, rfl, lk, hcd⟩ := F.ex
  exact ⟨len, fun A fr s H as us vs Q E hr hg e0 hb r h => LamX.run_ofS lk hcd S hr e0 hb r (len _ _ _ _ h) fun hr' => body A fr s H vs Q E hr' hg h⟩
section
variable {X : Cx} {CX : CXT} {k : Nat} {f : Addr} {fd : FuncData} {ps : List Str} {sp : Sp} {E : XK} {x : Str} {p pos : Pos} {e : Expr} {es : List Expr} {t : TA}
theorem runG {pins : List (Addr × Obj)} {σ : L2.St} {H : Hp} {s : Shared} {Q : VK} {us : List Value} {vs : List V} (F : FnG X.prog X.w X.K X.mg X.base CX k f fd ps sp) (hr : Room k X.A) (hg : X.A.guards = some [])
    (hb : Binds X.K fd ps []) (hx : Passes CX X E) (I : Inv X pins σ H s) (r : Vals vs us) (h : sp vs H Q E) : wpAny (model X.prog X.w) X.A (call (.ref f) us) (EP X pins σ Q) X.xe s := by
  have hl : (us ++ []).length = ps.length := by rw [List.append_nil, ← r.length]; exact F.len _ _ _ _ h
  have b := hb s us I.kIn hl
  rw [List.append_nil] at b
  refine wpAny_call (codeAny_mono (F.run X.A X.stack s H ⟨us, []⟩ us vs Q E hr hg I.env0 b r h) fun q s' z => ?_)
  match q, z with
  | .error e, z => exact hx pins σ H s e s' I z
  | .ok (.ret u), z => exact I.after z
/-- a def of the module, called by its name, as one bundle -/
structure Fn (P : Program) (w : World) (K : PySem.W.Frag) (mg : Str → Option Value) (base : Heap) (CX : CXT) (k : Nat) (x : Str) (ps : List Str) (sp : Sp) : Prop where
  ex : ∃ (f : Addr) (fd : FuncData), FnG P w K mg base CX k f fd ps sp ∧ mg x = some (.ref f) ∧ PySem.W.keepIn K (.ref f) = true ∧ Binds K fd ps [] ∧
    ∀ (s : Shared) (ws : List Value), K.In s.heap → ws.length = ps.length → BindsTo s fd ⟨[], ps.zip ws⟩ (ps.zip ws)
theorem pe_f {j : Nat} (c : Fn X.prog X.w X.K X.mg X.base CX k x ps sp) (hr : Room j X.A) (hg : X.A.guards = some []) (hx : Passes CX X E) (ha : PA X (e :: es) t) (hk : k ≤ j := by decide) (gl : Gl X x := by rfl)
    (hdb : (x == ("__debug__" : Str)) = false := by decide) (he : starEach (e :: es) X.env = (false, eval e X.env) :: starEach es X.env := by rfl) (hpl : (backTo pos (starEach es X.env)).any (·.1) = false := by rfl) :
    PE X (.Call (.Name x p) (e :: es) [] pos) (tCall sp [] E t) := by
  obtain ⟨f, fd, F, m, kp, b, _⟩ := c.ex
  constructor
  intro pins s σ H Q I h
  refine wpAny_Call_Name_kw (ld_glob I gl m ?_ hdb)
  refine PySem.W.callWith_K (h₀ := X.base) I.ok.mod.kin kp (thn (ha.run pos pins s σ H _ I h) fun us s1 q => ?_) he hpl
  obtain ⟨vs, H1, I1, r, q⟩ := q
  rw [List.append_nil] at q
  exact ⟨I1.kIn, runG F (hr.mono hk) hg b hx I1 r q⟩
end
end L3
namespace L3
open PySem PySem.Spec PyProof.Rows L2 LamX
/-- what is tracked at the law's entry: the script, locked, where it is no object of the module's own; the tables -/
def H0 (K : PySem.W.Frag) (a : Addr) (o : Obj) (xs : List V) (ts : List Addr) : Hp := fun b =>
  if b ∈ ts then some (.tbl #[]) else if b = a ∧ (K.lookup a).isNone = true then some (.frz o (.lst xs)) else none
theorem lawG {P : Program} {w : World} {K : PySem.W.Frag} {mg mb : Str → Option Value} {CX : CXT} {k : Nat} {fa a : Addr} {cs : List (Addr × Addr)} {fd : FuncData} {x : Str} {sp : Sp} {s : Shared} {vs : List Value} {ns : List Int}
    (kin : K.In s.heap) (glo : s.heap.Ns mainGlobals mg) (blt : s.heap.Ns builtinsNs mb) (bls : ∀ y : Str, y ≠ "__name__" → mb y = bootBuiltins y) (lims : s.heap.NoLimit) (gen : s.gens = #[])
    (tabs : ∀ p ∈ cs, s.heap.get? p.2 = some { cls := .none, data := .fields #[] }) (tabK : ∀ p ∈ cs, K.lookup p.2 = none) (codes : ∀ p ∈ cs, PySem.W.CodeHd s.heap p.1 p.2)
    (bmod : ∃ (bm : Addr) (ob : Obj), mg "__builtins__" = some (.ref bm) ∧ bm ≠ builtinsNs ∧ s.heap.get? bm = some ob ∧ ob.cls = .type "module" ∧ ob.dict = some builtinsNs ∧ ob.data = .plain)
    (scr : s.heap.get? a = some { cls := .type "list", data := .seq vs.toArray }) (hInts : IntsAre vs ns) (few : ns.length ≤ sizeLine) (room : Room k callerA)
    (F : ∀ base : Heap, K.In base → base.Ns mainGlobals mg → (∀ p ∈ cs, TabB base mg p.1 p.2) → FnG P w K mg base CX k fa fd [x] sp)
    (bind : ∀ (s : Shared) (u : Value), BindsTo s fd ⟨[u], []⟩ [(x, u)])
    (says : ∀ H : Hp, (∀ p ∈ cs, H p.2 = some (.tbl #[])) → SqL K H a (ns.map V.int) → sp [.ref a] H (fun v _ => v = .bl true) fun _ _ _ => False)
    (none' : ∀ H e s', CX [] H s (fun _ _ _ => False) e s' → False) :
    codeAny (model P w) callerA (.call (.ref fa) ⟨[.ref a], []⟩) (fun r s' => r = .ok (.ret (.bool true)) ∧ OldK s.heap s'.heap ∧ s'.os = s.os ∧ AllBare s'.gens) s := by
  have rv := vals_ints hInts
  have lv := hInts.length
  generalize hts : cs.map (·.2) = ts
  have mem : ∀ p ∈ cs, p.2 ∈ ts := fun p hp => by rw [← hts]; exact List.mem_map.mpr ⟨p, hp, rfl⟩
  have isT : ∀ b ∈ ts, s.heap.get? b = some { cls := .none, data := .fields #[] } ∧ K.lookup b = none := fun b hb => by
    rw [← hts] at hb
    obtain ⟨p, hp, rfl⟩ := List.mem_map.mp hb
    exact ⟨tabs p hp, tabK p hp⟩
  have aT : a ∉ ts := fun z => by
    have q := (isT a z).1
    rw [scr] at q
    exact nomatch congrArg Obj.data (Option.some.inj q)
  generalize hH : H0 K a { cls := .type "list", data := .seq vs.toArray } (ns.map V.int) ts = H
  have atT : ∀ b ∈ ts, H b = some (.tbl #[]) := fun b hb => by rw [← hH]; exact if_pos hb
  have cases_ : ∀ b, H b = none ∨ b ∈ ts ∨ (b = a ∧ K.lookup a = none ∧ H b = some (.frz { cls := .type "list", data := .seq vs.toArray } (.lst (ns.map V.int)))) := fun b => by
    by_cases h1 : b ∈ ts
    · exact .inr (.inl h1)
    · by_cases h2 : b = a ∧ (K.lookup a).isNone = true
      · refine .inr (.inr ⟨h2.1, by simpa using h2.2, ?_⟩)
        rw [← hH]; unfold H0; rw [if_neg h1, if_pos h2]
      · left; rw [← hH]; unfold H0; rw [if_neg h1, if_neg h2]
  have hok : HOk P w H s.heap := fun b o e => by
    rcases cases_ b with q | q | ⟨rfl, _, q⟩
    · rw [q] at e; cases e
    · rw [atT b q] at e; cases e; exact (isT b q).1
    · rw [q] at e; cases e
      exact ⟨scr, by rw [List.length_map]; exact few, vs, _, rv, scr⟩
  have sq : SqL K H a (ns.map V.int) := by
    cases hk : K.lookup a with
    | none => exact .inl (.inr ⟨_, by rw [← hH]; unfold H0; rw [if_neg aT, if_pos ⟨rfl, by rw [hk]; rfl⟩]⟩)
    | some o =>
      have z := kin a o hk
      rw [scr] at z
      cases z
      exact .inr ⟨_, vs.toArray, _, hk, rfl, rfl, rfl, by rw [List.size_toArray, lv]; exact few, by simpa using rv⟩
  -- what isn't tracked lies in the ground
  have gr : ∀ {b : Addr} {o : Obj}, s.heap.get? b = some o → H b = none → (hidT s.heap H).get? b = some o := fun e n => hidT_get e n
  have free : ∀ {b : Addr} {o : Obj}, s.heap.get? b = some o → (∀ us n, o.data ≠ .seq us n) → o.data ≠ .fields #[] → H b = none := fun {b o} e h1 h2 => by
    rcases cases_ b with q | q | ⟨rfl, _, _⟩
    · exact q
    · rw [(isT b q).1] at e; cases e; exact (h2 rfl).elim
    · rw [scr] at e; cases e; exact (h1 _ _ rfl).elim
  have ns' : ∀ {b : Addr} {m : Str → Option Value}, s.heap.Ns b m → (hidT s.heap H).Ns b m := fun {b m} h => by
    obtain ⟨o, es, ep, e, d, r⟩ := h
    exact ⟨o, es, ep, gr e (free e (fun _ _ z => by rw [d] at z; cases z) fun z => by rw [d] at z; cases z), d, r⟩
  have kin' : K.In (hidT s.heap H) := fun b o e => gr (kin b o e) (by
    rcases cases_ b with q | q | ⟨rfl, q, _⟩
    · exact q
    · rw [(isT b q).2] at e; cases e
    · rw [q] at e; cases e)
  have lim' : (hidT s.heap H).NoLimit := by
    obtain ⟨mc, h1, h2⟩ := lims
    exact ⟨mc, ns' h1, h2⟩
  have tb : ∀ p ∈ cs, TabB (hidT s.heap H) mg p.1 p.2 := fun p hp => by
    refine ⟨?_, ?_, fun z => ?_⟩
    · obtain ⟨o, us, file, tf, flags, tg, inF, text, tt, e1, r1, r2, r3, r⟩ := codes p hp
      refine ⟨o, us, file, tf, flags, tg, inF, text, tt, gr e1 (free e1 (fun _ _ z => by rw [r2] at z; cases z) fun z => ?_), r1, r2, r3, r⟩
      rw [r2] at z
      cases z
      simp at r3
    · obtain ⟨bm, ob, b1, b2, b3, b4, b5, b6⟩ := bmod
      refine ⟨bm, ob, b1, b2, fun z => ?_, fun z => ?_, gr b3 (free b3 (fun _ _ z => by rw [b6] at z; cases z) fun z => by rw [b6] at z; cases z), b4, b5, b6⟩
      · obtain ⟨o, es, ep, e, hd, _⟩ := glo
        rw [z, e] at b3; cases b3; rw [hd] at b6; cases b6
      · rw [z, tabs p hp] at b3; cases b3; cases b6
    · obtain ⟨o, es, ep, e, hd, _⟩ := glo
      rw [z, tabs p hp] at e; cases e; cases hd
  have e0 : Env0 P w K mg (hidT s.heap H) callerA [] s H :=
    ⟨rfl, ⟨kin', ns' glo, ⟨mb, ns' blt, bls⟩, lim'⟩, fun b o e => of_hidT e, Nat.le_of_eq (hidT_size _ _), trivial, fun b hb => absurd (show b ∈ ([] : List Addr) from hb) (by simp), hok, .of_eq gen⟩
  refine codeAny_mono ((F _ kin' (ns' glo) tb).run callerA [] s H ⟨[.ref a], []⟩ [.ref a] [.ref a] _ _ room rfl e0 (bind s (.ref a)) (.cons rfl .nil) (says H (fun p hp => atT _ (mem p hp)) sq)) fun r s' h => ?_
  match r, h with
  | .error e, h => exact (none' H e s' h).elim
  | .ok (.ret u), h =>
    obtain ⟨v, H', os, bare, un, hok', r', q⟩ := h
    have q' : v = .bl true := q
    subst q'
    obtain rfl : u = Value.bool true := r'
    have nofr : ∀ b : Addr, b ∉ frs [] := fun b z => absurd (show b ∈ ([] : List Addr) from z) (by simp)
    have kept : ∀ b o, b ∉ ts → s.heap.get? b = some o → s'.heap.get? b = some o := fun b o nb e => by
      rcases cases_ b with q | q | ⟨_, _, q⟩
      · exact un.keep b o e q (nofr b) (by simp)
      · exact absurd q nb
      · have e1 := (hok b _ q).1
        have e2 := (hok' b _ (un.frzs b _ _ q)).1
        rw [e] at e1; cases e1; exact e2
    have tgrow : ∀ p ∈ cs, ∃ more : Array Value, s'.heap.get? p.2 = some { cls := .none, data := .fields more } := fun p hp => by
      obtain ⟨more, z⟩ := un.tbls p.2 #[] (atT _ (mem p hp))
      exact ⟨_, hok' p.2 _ z⟩
    have back : ∀ b ∈ ts, ∃ p ∈ cs, p.2 = b := fun b hb => by
      rw [← hts] at hb
      obtain ⟨p, hp, e⟩ := List.mem_map.mp hb
      exact ⟨p, hp, e⟩
    refine ⟨rfl, ⟨fun b o e => ?_, fun b o e => ?_⟩, os, bare⟩
    · by_cases hb : b ∈ ts
      · obtain ⟨p, hp, rfl⟩ := back b hb
        obtain ⟨more, hm⟩ := tgrow p hp
        rw [tabs p hp] at e
        cases e
        refine .inr (.inl ⟨((codes p hp).tab (tabs p hp)).isCodeTable, rfl, #[], more, rfl, ?_⟩)
        rw [Array.empty_append]
        exact hm
      · exact .inl (kept b o hb e)
    · by_cases hb : b ∈ ts
      · obtain ⟨p, hp, rfl⟩ := back b hb
        obtain ⟨more, hm⟩ := tgrow p hp
        exact ⟨_, hm⟩
      · exact ⟨o, kept b o hb e⟩
/-- what a law's own text must bring -/
structure LawG (l : PySem.W.OpenLaw) (w : World) (K : PySem.W.Frag) (CX : CXT) (k n : Nat) (x : Str) (mg : Str → Option Value) (fa : Addr) (h : Heap) : Prop where
  ex : ∃ (fd : FuncData) (cs : List (Addr × Addr)) (sp : Sp), (∀ p ∈ cs, h.get? p.2 = some { cls := .none, data := .fields #[] }) ∧ (∀ p ∈ cs, K.lookup p.2 = none) ∧ (∀ p ∈ cs, PySem.W.CodeHd h p.1 p.2) ∧
    (∀ (s : Shared) (u : Value), BindsTo s fd ⟨[u], []⟩ [(x, u)]) ∧
    (∀ (H : Hp) (a : Addr) (ns : List Int), ns.length ≤ n → (∀ p ∈ cs, H p.2 = some (.tbl #[])) → SqL K H a (ns.map V.int) → sp [.ref a] H (fun v _ => v = .bl true) fun _ _ _ => False) ∧
    ∀ base : Heap, K.In base → base.Ns mainGlobals mg → (∀ p ∈ cs, TabB base mg p.1 p.2) → FnG l.prog w K mg base CX k fa fd [x] sp
theorem walkG {l : PySem.W.OpenLaw} {n k : Nat} {q : Program} {loose : List Str} {XP : (Str → Option Value) → Heap → Prop} {YP : World → Heap → Prop} {d : DefRec} {K : Params → PySem.W.Frag} {CX : World → CXT} {x : Str}
    (hn : l.most = some n) (hn2 : n ≤ sizeLine) (hdf : d.params.defaults = []) (hr : Room k callerA) (hY : ∀ (w : World) (h : Heap), YP w h → (K w.params).In h)
    (F : ∀ (w : World) (mg : Str → Option Value) (fa : Addr) (h : Heap), YP w h → (K w.params).In h → h.Ns mainGlobals mg → mg d.name = some (.ref fa) → LawG l w (K w.params) (CX w) k n x mg fa h)
    (hCX : ∀ (w : World) (H : Hp) (s : Shared) (e : Value) (s' : Shared), CX w [] H s (fun _ _ _ => False) e s' → False) :
    PySem.W.WalkO q loose XP YP l.row.toRowW d [] (fun f vs => PySem.call f vs) := by
  refine Att.attach_callB hn hdf fun w s₀ s₁ mg mb fa o pm cd doc a vs ns G Y ho hd hcd hmg hobj hints hlen _ hg => ?_
  have kx := hY w _ Y
  obtain ⟨fd, cs, sp, t1, t2, t3, hb, hs, hF⟩ := (F w mg fa _ Y kx G.T.g hmg).ex
  exact lawG kx G.T.g G.T.b G.T.builtins G.T.nolimit hg t1 t2 t3 G.T.bmain hobj hints (Nat.le_trans hlen hn2) hr hF hb (fun H hH hS => hs H a ns hlen hH hS) fun H e s' => hCX w H s₁ e s'
end L3
end
section
namespace L3
open PySem PySem.Spec PyProof.Rows L2
section
variable {X : Cx}
mutual
theorem dp_noDict {K : PySem.W.Frag} {H : Hp} : ∀ (d : PyData) (v : V), Dp K H v d → d.hasDict = false
  | .none, _, _ => rfl
  | .bool _, _, _ => rfl
  | .int _, _, _ => rfl
  | .str _, _, _ => rfl
  | .list ds, _, h => by
    cases h with
    | lst _ a => exact dp_noDictAll ds _ a
  | .tuple ds, _, h => by
    cases h with
    | tup _ a => exact dp_noDictAll ds _ a
  | .dict _, _, h => nomatch h
theorem dp_noDictAll {K : PySem.W.Frag} {H : Hp} : ∀ (ds : List PyData) (vs : List V), DpAll K H vs ds → PyData.hasDictAll ds = false
  | [], _, _ => rfl
  | d :: ds, _, h => by
    cases h with
    | cons a b =>
      unfold PyData.hasDictAll
      rw [dp_noDict d _ a, dp_noDictAll ds _ b]
      rfl
end
def rRepr (K : PySem.W.Frag) : List V → Hp → VK → Prop := fun xs H Q => ∃ x d, xs = [x] ∧ Dp K H x d ∧ d.showable = true ∧ d.depth ≤ 60 ∧ d.shown.length ≤ sizeLine ∧ Q (.str d.shown) H
theorem call_reprD (hg : X.A.guards = some []) (hu : X.A.units + 64 < cLine) : CallR X (.builtin "repr") (rRepr X.K) := by
  intro pins s σ H xs us Q I r h
  obtain ⟨x, d, rfl, hd, hs, hdp, hz, q⟩ := h
  obtain ⟨u, rfl, rx⟩ := vals1 r
  have nd := dp_noDict d x hd
  obtain ⟨as, rd⟩ := Dp.reads I d x u hd rx
  have fin : ∀ tk t, EP X pins σ Q (.str d.shown t) { s with toks := tk } := fun tk t => ⟨.str d.shown, H, I.tok tk, ⟨t, rfl⟩, q⟩
  cases hd with
  | non =>
    cases (show u = Value.none from rx)
    exact P.repr_of_none (fin _ _)
  | bl b =>
    cases (show u = Value.bool b from rx)
    refine P.repr_of_bool ?_
    cases b
    · exact fin _ _
    · exact fin _ _
  | int i =>
    obtain ⟨t, e⟩ := (show ∃ t, u = Value.int i t from rx)
    subst e
    exact P.repr_of_int (of_decide_eq_true hs) (fin _ _)
  | str z =>
    obtain ⟨t, e⟩ := (show ∃ t, u = Value.str z t from rx)
    subst e
    exact P.repr_of_str (fin _ _) hz
  | lst a b =>
    cases (show u = Value.ref _ from rx)
    refine repr_of_reads' rd hs (PyData.noDict_hsm nd) hg (by omega) (fun _ _ e => e) (fun h' t tk k => ?_) hz
    exact ⟨.str _, H, I.kept k, ⟨t, rfl⟩, q⟩
  | tup a b =>
    cases (show u = Value.ref _ from rx)
    refine repr_of_reads' rd hs (PyData.noDict_hsm nd) hg (by omega) (fun _ _ e => e) (fun h' t tk k => ?_) hz
    exact ⟨.str _, H, I.kept k, ⟨t, rfl⟩, q⟩
def repS (z : Str) (n : Nat) : Str := ⟨(List.replicate n z.cps).foldl (· ++ ·) #[]⟩
def rMulS : R2 := fun x y H Q => ∃ z n, x = .str z ∧ y = .int n ∧ 2 ≤ n ∧ n ≤ 100000 ∧ z.length = 1 ∧ Q (.str (repS z n.toNat)) H
theorem repS_len (z : Str) (n : Nat) : (repS z n).length = n * z.length := by
  have h : ∀ (l : List (Array Nat)) (a : Array Nat), (l.foldl (· ++ ·) a).size = a.size + (l.map (·.size)).sum := by
    intro l
    induction l with
    | nil => intro a; simp
    | cons b r ih => intro a; rw [List.foldl_cons, ih, Array.size_append, List.map_cons, List.sum_cons]; omega
  show ((List.replicate n z.cps).foldl (· ++ ·) #[]).size = _
  rw [h, List.map_replicate, List.sum_replicate_nat]
  simp [Str.length]
theorem op_mulS : OpR X (binaryOp .Mult) rMulS := by
  intro pins s σ H x y v u Q I rx ry h
  obtain ⟨z, n, rfl, rfl, h1, h2, h3, q⟩ := h
  obtain ⟨t, rfl⟩ := rx
  obtain ⟨t', rfl⟩ := ry
  have c1 : ¬ n < 1 := by omega
  have c2 : (n == 1 || z.length == 0) = false := by
    rw [h3, show (n == 1) = false from beq_eq_false_iff_ne.mpr (by omega)]
    rfl
  refine P.mul_str (by rw [decide_eq_false (by omega), decide_eq_false (by omega)]; rfl) (fun _ _ => ?_) (fun _ _ => ?_) ?_
  · rw [h3]
    have : (1 : Int) ≤ (2 ^ 63 - 1) / n := Int.le_ediv_of_mul_le (by omega) (by omega)
    omega
  · unfold PySem.Builtin.Str.tooLong
    rw [h3]
    exact decide_eq_false (by rw [sizeLine_eq]; omega)
  · rw [if_neg c1, c2, if_neg (by decide)]
    refine ⟨?_, ⟨.str (repS z n.toNat), H, I.tok _, ⟨_, rfl⟩, q⟩⟩
    show (repS z n.toNat).length ≤ sizeLine
    rw [repS_len, h3, sizeLine_eq]
    omega
theorem vals_of_get : ∀ {xs : List V} {us : List Value}, xs.length = us.length → (∀ (i : Nat) x u, xs[i]? = some x → us[i]? = some u → RelV x u) → Vals xs us
  | [], [], _, _ => .nil
  | x :: xs, u :: us, hl, h => .cons (h 0 x u rfl rfl) (vals_of_get (by simpa using hl) fun i y v a b => h (i + 1) y v (by simpa using a) (by simpa using b))
  | [], _ :: _, hl, _ => by simp at hl
  | _ :: _, [], hl, _ => by simp at hl
def chars (z : Str) : List V := z.cps.toList.map fun c => V.str ⟨#[c]⟩
def rListS : List V → Hp → VK → Prop := fun xs H Q => ∃ z, xs = [.str z] ∧ z.length ≤ sizeLine ∧ ∀ l, H l = none → ap Q (.ref l) (upd H l (.lst (chars z)))
theorem call_listS (hc : X.calm = true) : CallR X (.type "list") rListS := by
  intro pins s σ H xs us Q I r h
  obtain ⟨z, rfl, hz, q⟩ := h
  obtain ⟨u, rfl, rx⟩ := vals1 r
  obtain ⟨t, rfl⟩ := rx
  refine call_list_str (I.ok.hd hc) z t (fun h' tk acc c k e it => ?_) hz
  have rl : Vals (chars z) acc.toList := by
    refine vals_of_get ?_ fun i x u hx hu => ?_
    · unfold chars
      rw [List.length_map, Array.length_toList, Array.length_toList, it.1]
    · obtain ⟨c, t, e1, rfl⟩ := it.2 i u (by simpa using hu)
      have e2 : z.cps.toList[i]? = some c := by simpa using e1
      unfold chars at hx
      rw [List.getElem?_map, e2] at hx
      cases hx
      exact ⟨t, rfl⟩
  refine ⟨.ref s.heap.objs.size, _, I.laid (t' := tk) k (Nat.le_refl _) (o := .lst (chars z)) ⟨by unfold chars; rw [List.length_map]; exact hz, acc.toList, c, rl, by simpa using e⟩, rfl, q _ (I.hok.fresh (Nat.le_refl _))⟩
end
end L3
namespace L3
open PySem PySem.Calls PySem.NumText PyProof.Rows PySem.W PySem.W.KIN
def DigitsFree (h : Heap) : Prop := ∃ mc, h.Ns cStatics mc ∧ mc "sys.int_max_str_digits" = none
theorem wp_digits {M : Model} {A : Around} {E : Value → Shared → Prop} {s : Shared} {Q : Nat → Shared → Prop} (hm : DigitsFree s.heap) (h : Q 4300 s) : wpAny M A PySem.Builtin.intMaxStrDigits Q E s := by
  obtain ⟨mc, h1, h2⟩ := hm
  unfold PySem.Builtin.intMaxStrDigits
  refine wpAny_bind (wpAny_nsGet h1 ?_)
  rw [h2]
  exact wpAny_pure h
theorem wp_textL {M : Model} {A : Around} {E : Value → Shared → Prop} {s : Shared} {Q : Value → Shared → Prop} {v : Value} {text : List Nat} {n : Int} (hm : DigitsFree s.heap)
    (hs : ¬ (text.takeWhile (· != 0)).length ≤ 640) (hr : (int_private% "readNumeral") 4300 10 (text.takeWhile (· != 0)) = (int_private% "Numeral.value") n)
    (ha : ((text.takeWhile (· != 0)).length == text.length) = true) (h : Q (.int n s.toks) { s with toks := s.toks + 1 }) :
    wpAny M A ((int_private% "intFromText") v text 10) Q E s := by
  obtain ⟨hp, g, d, tk, os⟩ := s
  repeat (any_goals (first
    | assumption
    | (with_reducible refine wpAny_ite_false (decide_eq_false hs) ?_)
    | (with_reducible refine wpAny_ite_true (decide_eq_true ha) ?_)
    | (with_reducible refine wp_digits hm ?_)
    | wp_step))
  all_goals (try rw [hr])
  all_goals (try dsimp only)
  repeat (any_goals (first
    | assumption
    | (with_reducible refine wpAny_ite_true (decide_eq_true ha) ?_)
    | wp_step))
structure HidL (p : Prop) : Prop where
  out : p
theorem meets_textL {x : PySem.Str} {u : Tok} {n : Int} (hl : ¬ (numSeenOf x).length ≤ 640) (hr : (int_private% "readNumeral") 4300 10 (numSeenOf x) = (int_private% "Numeral.value") n)
    (ha : ((numSeenOf x).length == (numTextOf x).length) = true) : Meets (Builtin.«int.__new__» ⟨[.type "int", .str x u], []⟩) (fun _ R s => DigitsFree s.heap ∧ R (.ok (.ret (.int n s.toks))) { s with toks := s.toks + 1 }) := by
  intro prog w A R s h
  obtain ⟨hm, h⟩ := h
  obtain ⟨hp, g, d, tk, os⟩ := s
  have g1 := F.conv_sub_int
  have g2 := F.madeHere_int
  have g3 := str_int
  have g4 := str_idx
  have g5 := str_trunc
  have g6 : typeOf (.str x u) = pure (.type "str") := rfl
  have hk := HidL.mk (And.intro hl (And.intro hr ha))
  clear hl hr ha
  repeat (any_goals (first
    | assumption
    | ((with_reducible show wpAny _ _ ((int_private% "intFromText") _ _ _) _ _ _); refine wp_textL hm hk.out.1 hk.out.2.1 hk.out.2.2 ?_)
    | wp_step))
theorem call_textL {prog : Program} {w : World} {A : Around} {E : Value → Shared → Prop} {s : Shared} {Q : Value → Shared → Prop} {x : PySem.Str} {u : Tok} {n : Int} (hm : DigitsFree s.heap) (hl : ¬ (numSeenOf x).length ≤ 640) (hr : (int_private% "readNumeral") 4300 10 (numSeenOf x) = (int_private% "Numeral.value") n)
    (ha : ((numSeenOf x).length == (numTextOf x).length) = true) (h : Q (.int n s.toks) { s with toks := s.toks + 1 }) :
    wpAny (model prog w) A (call (.type "int") [.str x u]) Q E s := call_int_1 (meets_textL hl hr ha) ⟨hm, rfl, h⟩
end L3
namespace L3
open PySem PySem.Spec PyProof.Rows L2
namespace FnK
theorem slot : Slot "function" "__getattribute__" "object.__getattribute__" := .of (owner := "object") (n := "__getattribute__")
  (by rw [typeLookup_type, builtinLookup_eq_fast]; kernel_rfl) (by decide +kernel) (by decide +kernel) (by decide +kernel) (by first | exact .inl (by decide +kernel) | exact .inr (by decide +kernel)) (by rw [isSubtype_type]; kernel_rfl)
theorem look : typeLookup (.type "function") "__class__" = pure (some (.builtin "object.__class__")) := by
  rw [typeLookup_type, builtinLookup_eq_fast]; kernel_rfl
theorem below : isSubtype (.type "function") (.type (".".intercalate ("object.__class__".cutAt '.').dropLast)) = pure true := by
  rw [F.owner_object_class, isSubtype_type]; kernel_rfl
section
variable {prog : Program} {w : World} {A : Around} {E : Value → Shared → Prop} {hp : Heap} {gs : Array GenState} {dr : Drawn} {tk : Nat} {os : OsState} {f : Addr} {ob : Obj}
theorem got {R : Result → Shared → Prop} (e : hp.get? f = some ob) (c : ob.cls = .type "function") (k : R (.ok (.ret (.type "function"))) ⟨hp, gs, dr, tk, os⟩) :
    codeAny (model prog w) A (.call (.builtin "getset_descriptor.__get__") ⟨[.builtin "object.__class__", .ref f, .type "function"], []⟩) R ⟨hp, gs, dr, tk, os⟩ := by
  have y1 : (⟨hp, gs, dr, tk, os⟩ : Shared).TypeIs (.ref f) "function" := ⟨_, e, c⟩
  have y2 : (⟨hp, gs, dr, tk, os⟩ : Shared).TypeIs (.builtin "object.__class__") "getset_descriptor" := F.typeOf_object_class
  have y3 := below
  refine codeAny_call_builtin F.slot_gs_get.plain F.entry_gs_get (F.slot_gs_get.check _ _ _ _ _ _ _ _ y2 (F.args_gs_get _ _ _) ?_)
  repeat (any_goals (first | assumption | wp_step))
  refine ⟨Code.quiet_builtin _ (by decide +kernel), codeAny_builtin F.entry_object_class ?_⟩
  repeat (any_goals (first | assumption | wp_step))
theorem entry {t : Tok} {Q : Fin → Shared → Prop} (e : hp.get? f = some ob) (c : ob.cls = .type "function") (k : Q (.done (.ret (.type "function"))) ⟨hp, gs, dr, tk, os⟩) :
    wpAny (model prog w) A (Builtin.«object.__getattribute__» ⟨[.ref f, .str "__class__" t], []⟩) Q E ⟨hp, gs, dr, tk, os⟩ := by
  have y1 : (⟨hp, gs, dr, tk, os⟩ : Shared).TypeIs (.ref f) "function" := ⟨_, e, c⟩
  have y2 : (⟨hp, gs, dr, tk, os⟩ : Shared).TypeIs (.builtin "object.__class__") "getset_descriptor" := F.typeOf_object_class
  have y3 := look
  have y4 := F.typeOf_object_class
  have y5 := F.slot_gs_get.lookup
  have y6 := F.slot_gs_set.lookup
  repeat (any_goals (first | assumption | wp_step))
  refine got e c ?_
  repeat (any_goals (first | assumption | wp_step))
theorem by_ {t : Tok} {Q : Value → Shared → Prop} (e : hp.get? f = some ob) (c : ob.cls = .type "function") (k : Q (.type "function") ⟨hp, gs, dr, tk, os⟩) :
    wpAny (model prog w) A (getAttrBy (.ref f) (.str "__class__" t) false) Q E ⟨hp, gs, dr, tk, os⟩ := by
  have y1 : (⟨hp, gs, dr, tk, os⟩ : Shared).TypeIs (.ref f) "function" := ⟨_, e, c⟩
  have y2 := slot.lookup
  have y3 := slot.bind (.ref f)
  repeat (any_goals (first | assumption | wp_step))
  refine codeAny_call_builtin slot.plain F.entry_object_getattribute (slot.check _ _ _ _ _ _ _ _ y1 (F.args_object_getattribute_2 _ _) (entry e c ?_))
  repeat (any_goals (first | assumption | wp_step))
theorem attr {Q : Option Value → Shared → Prop} (e : hp.get? f = some ob) (c : ob.cls = .type "function") (k : Q (some (.type "function")) ⟨hp, gs, dr, tk + 1, os⟩) :
    wpAny (model prog w) A (getAttr? (.ref f) "__class__") Q E ⟨hp, gs, dr, tk, os⟩ := by
  unfold getAttr? getAttrBy?
  repeat (any_goals (first | assumption | with_reducible apply by_ e c | wp_step))
end
theorem kit {K : PySem.W.Frag} {f : Addr} : PySem.W.KitX K (.ref f) (.type "function") (PySem.W.KitAt f "function") :=
  PySem.W.kitx_of PySem.W.kitAt_ty (fun {_ _ _ _ _ s} p k => by
    obtain ⟨hp, gs, dr, tk, os⟩ := s
    obtain ⟨o, h1, h2⟩ := p
    exact attr h1 h2 k)
end FnK
/-- a function object -/
def FnV (f : Addr) : HO := .ext fun h => ∃ o, h.get? f = some o ∧ o.cls = .type "function"
/-- a value's type -/
inductive TyA (K : PySem.W.Frag) (H : Hp) : V → Value → Prop where
  | x {v : V} {t : Value} (h : TyX K H v t) : TyA K H v t
  | fn {f : Addr} (e : H f = some (FnV f)) : TyA K H (.ref f) (.type "function")
def rIsiA (K : PySem.W.Frag) : List V → Hp → VK → Prop := fun xs H Q => ∃ (x c : V) (t u : Value) (b : Bool), xs = [x, c] ∧ ClsV c u ∧ TyA K H x t ∧ PySem.W.kitOne K t u = some b ∧ Q (.bl b) H
theorem callIsi {X : Cx} : CallR X (.builtin "isinstance") (rIsiA X.K) := by
  intro pins s σ H xs us Q I r h
  obtain ⟨x, c, t, u, b, rfl, k, ty, e, q⟩ := h
  cases ty with
  | x ty => exact call_isi pins s σ H _ us Q I r ⟨x, c, t, u, b, rfl, k, ty, e, q⟩
  | @fn f ef =>
    obtain ⟨u1, u2, rfl, r1, r2⟩ := vals2 r
    have e2 := k.eq r2
    subst e2
    cases (show u1 = Value.ref f from r1)
    obtain ⟨⟨o, h1, h2⟩, _, _⟩ := (show ObjOk X.prog X.w H s.heap f (FnV f) from I.hok f _ ef)
    exact PySem.W.kia_one (FnK.kit (K := X.K) (f := f)) I.kIn ⟨o, h1, h2⟩ e (fun z => nomatch z) fun tk => ⟨.bl b, H, I.tok tk, rfl, q⟩
end L3
namespace L3
open PySem PySem.Spec PyProof.Rows L2 LamX
theorem Tabs.up {T : List (Addr × Str)} {H : Hp} {p : Addr} {o : HO} (t : Tabs T H) (h : H p = none) : Tabs T (upd H p o) := t.ext (ex_new h)
section
variable {X : Cx}
def rAddU : R2 := fun x y H Q => rI0 (fun i j => V.int (i + j)) x y H Q ∨ (∃ i j, x = .str i ∧ y = .str j ∧ i.length + j.length ≤ sizeLine ∧ Q (.str (i ++ j)) H) ∨ rCat x y H Q
theorem opAdd : OpR X (binaryOp .Add) rAddU := OpR.or op_add (OpR.or op_add_str op_cat)
def rMulU : R2 := fun x y H Q => rI IntMulOk (fun i j => V.int (i * j)) x y H Q ∨ rMulS x y H Q ∨ rRep x y H Q
theorem opMul : OpR X (binaryOp .Mult) rMulU := OpR.or (opI fun _ _ _ _ _ _ _ hc q => mul_int q hc) (OpR.or op_mulS op_rep)
theorem opEq (hu : X.A.units + 64 < cLine) : OpR X (compareOp .Eq) (rEqU X.K) := OpR.or op_eq (op_eqD hu)
theorem opNe (hu : X.A.units + 64 < cLine) : OpR X (compareOp .NotEq) (rNeU X.K) := OpR.or op_ne (op_neD hu)
def rIsU : R2 := fun x y H Q => (y = .non ∧ Q (.bl (decide (x = .non))) H) ∨ rIsB x y H Q
theorem opIs : OpR X (compareOp .Is) rIsU := OpR.or op_isN op_isBl
def rIsNotU : R2 := fun x y H Q => (y = .non ∧ Q (.bl (!decide (x = .non))) H) ∨ rNotB x y H Q
theorem opIsNot : OpR X (compareOp .IsNot) rIsNotU := OpR.or op_notN op_notBl
def rInU (K : PySem.W.Frag) : R2 := fun x y H Q => rInS x y H Q ∨ rIn K false x y H Q
theorem opIn : OpR X (compareOp .In) (rInU X.K) := OpR.or op_inS op_in_seq
def rNotInU (K : PySem.W.Frag) : R2 := fun x y H Q => rNotInS x y H Q ∨ rIn K true x y H Q
theorem opNotIn : OpR X (compareOp .NotIn) (rNotInU X.K) := OpR.or op_notInS op_notIn_seq
theorem IxR.or {r r' : R2} (h : IxR X r) (h' : IxR X r') : IxR X (fun x y H Q => r x y H Q ∨ r' x y H Q) := by
  intro value slice pins s σ H x y v u Q I rx ry q hs
  rcases q with q | q
  · exact h value slice pins s σ H x y v u Q I rx ry q hs
  · exact h' value slice pins s σ H x y v u Q I rx ry q hs
def rIxU (K : PySem.W.Frag) : R2 := fun x y H Q => rIxL K x y H Q ∨ rIxT K x y H Q ∨ rIxS x y H Q
theorem ixU : IxR X (rIxU X.K) := IxR.or ix_list (IxR.or ix_tup ix_str)
def rSlU (K : PySem.W.Frag) : V → Option Int → Option Int → Hp → VK → Prop := fun x lo hi H Q => rSlL K x lo hi H Q ∨ rSlS x lo hi H Q
theorem slU : SlR X (rSlU X.K) := SlR.or sl_list sl_str
theorem CallR.or {f : Value} {r r' : List V → Hp → VK → Prop} (h : CallR X f r) (h' : CallR X f r') : CallR X f (fun xs H Q => r xs H Q ∨ r' xs H Q) := by
  intro pins s σ H xs us Q I rs q
  rcases q with q | q
  · exact h pins s σ H xs us Q I rs q
  · exact h' pins s σ H xs us Q I rs q
/-- int(x): an int, a bool, a text -/
def rIntT : List V → Hp → VK → Prop := fun xs H Q => ∃ a n, xs = [.str a] ∧ PySem.intText? a = some n ∧ a.length ≤ 640 ∧ Q (.int n) H
def rIntL (K : PySem.W.Frag) : List V → Hp → VK → Prop := fun xs H Q => ∃ a n, xs = [.str a] ∧ PySem.intText? a = some n ∧ PySem.W.nsIn K cStatics "sys.int_max_str_digits" = some none ∧ ¬ (numSeenOf a).length ≤ 640 ∧ a.length ≤ sizeLine ∧ Q (.int n) H
theorem ns_none {K : PySem.W.Frag} {h : Heap} {a : Addr} {m : Str → Option Value} {x : Str} (kin : K.In h) (g : h.Ns a m) (e : PySem.W.nsIn K a x = some none) : m x = none := by
  obtain ⟨o, es, ep, ho, hd, _, hf⟩ := g
  cases hk : K.lookup a with
  | none => unfold PySem.W.nsIn at e; rw [hk] at e; cases e
  | some o' =>
    have z := kin _ _ hk
    rw [ho] at z
    cases z
    obtain ⟨c, d, dt, sl⟩ := o
    cases hd
    unfold PySem.W.nsIn at e
    rw [hk] at e
    cases he : es.toList.find? (·.key.isStr x) with
    | some y =>
      exfalso
      revert e
      show (match es.toList.find? (·.key.isStr x) with | some e => some (some e.val) | none => if es.toList.any (·.refKey) then none else some none) = some none → False
      rw [he]
      intro e; cases e
    | none =>
      rw [← hf]
      unfold nsFind findBy
      rw [← Array.find?_toList, he]
      rfl
theorem digits_free {K : PySem.W.Frag} {h : Heap} (kin : K.In h) (hl : h.NoLimit) (e : PySem.W.nsIn K cStatics "sys.int_max_str_digits" = some none) : DigitsFree h := by
  obtain ⟨mc, hn, _⟩ := hl
  refine ⟨mc, hn, ?_⟩
  exact ns_none kin hn e
def rIntU (K : PySem.W.Frag) : List V → Hp → VK → Prop := fun xs H Q => rInt1 xs H Q ∨ rIntT xs H Q ∨ rIntL K xs H Q
theorem callIntL : CallR X (.type "int") (rIntL X.K) := by
  intro pins s σ H xs us Q I rs h
  obtain ⟨a, n, rfl, hn, hk, hl, hz, q⟩ := h
  obtain ⟨u, rfl, rx⟩ := vals1 rs
  obtain ⟨t, rfl⟩ := rx
  rcases read4300 a hz with ⟨m, e1, e2, e3⟩ | ⟨e1, _⟩
  · rw [hn] at e1
    cases e1
    exact call_textL (digits_free I.kIn I.nolimit hk) hl e3 e2 ⟨.int n, H, I.tok _, ⟨_, rfl⟩, q⟩
  · rw [hn] at e1; cases e1
theorem callInt : CallR X (.type "int") (rIntU X.K) := CallR.or call_int1 (CallR.or call_int_str callIntL)
def rListU (K : PySem.W.Frag) : List V → Hp → VK → Prop := fun xs H Q => (∃ p ys, xs = [.ref p] ∧ (SqL K H p ys ∨ SqT K H p ys) ∧ ∀ l, H l = none → Q (.ref l) (upd H l (.lst ys))) ∨ rListS xs H Q
theorem callList (hc : X.calm = true) : CallR X (.type "list") (rListU X.K) := CallR.or call_list_of (call_listS hc)
end
end L3
end
section
namespace KX
open PySem PySem.Spec PyProof.Rows L2 LamX L3
section
variable {X : Cx} {K : PySem.W.Frag} (hK : X.K = K := by rfl)
include hK
theorem opIn : OpR X (compareOp .In) (rInU K) := by subst hK; exact L3.opIn
theorem opNotIn : OpR X (compareOp .NotIn) (rNotInU K) := by subst hK; exact L3.opNotIn
theorem ixU : IxR X (rIxU K) := by subst hK; exact L3.ixU
theorem slU : SlR X (rSlU K) := by subst hK; exact L3.slU
theorem callInt : CallR X (.type "int") (rIntU K) := by subst hK; exact L3.callInt
theorem callIsi : CallR X (.builtin "isinstance") (rIsiA K) := by subst hK; exact L3.callIsi
theorem callLen : CallR X (.builtin "len") (rLen1 K) := by subst hK; exact call_len
theorem callList (hc : X.calm = true) : CallR X (.type "list") (rListU K) := by subst hK; exact L3.callList hc
theorem callAll (hc : X.calm = true) : CallR X (.builtin "all") (rAll K) := by subst hK; exact cr_all hc
theorem eqU (hu : X.A.units + 64 < cLine) : OpR X (compareOp .Eq) (rEqU K) := by subst hK; exact opEq hu
theorem neU (hu : X.A.units + 64 < cLine) : OpR X (compareOp .NotEq) (rNeU K) := by subst hK; exact opNe hu
theorem fld {e : Expr} {f : Str} {pos : Pos} {ta : TE} (ha : PE X e ta) (hb : attributeBase e f X.env (eval e X.env) = eval e X.env) : PE X (.Attribute e f pos) (tFld K ta f) := by subst hK; exact pe_fld ha hb
end
end KX
namespace L3
open PySem PySem.Spec PyProof.Rows L2 LamX
section
variable {σ : L2.St} {H : Hp} {D : Ends} {Q : VK} {v x y : V} {K : PySem.W.Frag} {te ta tb : TE}
theorem iteNF {A B : Prop} (h : A) : if (!false) = true then A else B := iteT h
theorem iteNT {A B : Prop} (h : B) : if (!true) = true then A else B := iteF h
theorem s_pair {i j : Nat} {tt : TA} (h : tt σ H fun vs H1 => ∃ v w, vs = [v, w] ∧ D.nx ((σ.set i (some v)).set j (some w)) H1) : tPar i j tt D σ H := h
theorem s_pair2 {R : V → V → Prop} (h : R x y) : ∃ v w, [x, y] = [v, w] ∧ R v w := ⟨x, y, rfl, h⟩
theorem s_fld {tv : TE} {f : Str} (h : tv σ H fun y H1 => ta σ H1 fun x H2 => ∃ a C dx fs, x = .ref a ∧ H2 a = some (.ins C dx fs) ∧ Cls K C ∧ NoAttr K C f ∧ fs.length < 1000 ∧ D.nx σ (upd H2 a (.ins C dx (putF f y fs)))) : sFld K ta tv f D σ H := h
theorem s_make {C : Addr} {sp : Sp} {dvs : List V} {E : XK} {tt : TA} (h : tt σ H fun vs H1 => ∀ p dx, H1 p = none → H1 dx = none → dx ≠ p → sp (.ref p :: (vs ++ dvs)) (upd (upd H1 dx (.own p)) p (.ins C dx [])) (fun v H2 => v = .non ∧ ap Q (.ref p) H2) E) : tMake C sp dvs E tt σ H Q := h
theorem s_dnew (h : ∀ p H2, H p = none → Ex H H2 → H2 p = some (.dK []) → Q (.ref p) H2) : tDNewK σ H Q := fun p hp => h p _ hp (ex_new hp) upd_same
theorem s_pow {g : Int → Int → V} {i j : Int} (c : CPow i j) (h : Q (g i j) H) : rI CPow g (.int i) (.int j) H Q := ⟨i, j, rfl, rfl, c, h⟩
theorem s_m1 {r : V → List V → Hp → VK → Prop} (h : ta σ H fun x H1 => (∃ a, x = .str a) ∧ tb σ H1 fun y H2 => r x [y] H2 Q) : tM1 r ta tb σ H Q := h
theorem s_isstr {z : Str} {R : Prop} (h : R) : (∃ a, V.str z = .str a) ∧ R := ⟨⟨z, rfl⟩, h⟩
theorem s_addI {i j : Int} (h : Q (.int (i + j)) H) : rAddU (.int i) (.int j) H Q := .inl ⟨i, j, rfl, rfl, h⟩
theorem s_addS {i j : Str} (z : i.length + j.length ≤ sizeLine) (h : Q (.str (i ++ j)) H) : rAddU (.str i) (.str j) H Q := .inr (.inl ⟨i, j, rfl, rfl, z, h⟩)
theorem s_addL {l b : Addr} {xs zs : List V} (e : H l = some (.lst xs)) (e' : H b = some (.lst zs)) (z : xs.length + zs.length ≤ sizeLine) (h : ∀ p H2, H p = none → Ex H H2 → H2 p = some (.lst (xs ++ zs)) → Q (.ref p) H2) : rAddU (.ref l) (.ref b) H Q :=
  .inr (.inr ⟨l, b, xs, zs, rfl, rfl, e, e', z, fun p hp => h p _ hp (ex_new hp) upd_same⟩)
theorem s_mulI {i j : Int} (c : IntMulOk i j) (h : Q (.int (i * j)) H) : rMulU (.int i) (.int j) H Q := .inl ⟨i, j, rfl, rfl, c, h⟩
theorem s_mulS {z : Str} {n : Int} (h1 : 2 ≤ n) (h2 : n ≤ 100000) (hz : z.length = 1) (h : Q (.str (repS z n.toNat)) H) : rMulU (.str z) (.int n) H Q := .inr (.inl ⟨z, n, rfl, rfl, h1, h2, hz, h⟩)
theorem s_isN (h : Q (.bl (decide (x = .non))) H) : rIsU x .non H Q := .inl ⟨rfl, h⟩
theorem s_isB {a b : Bool} (h : Q (.bl (decide (a = b))) H) : rIsU (.bl a) (.bl b) H Q := .inr ⟨a, b, rfl, rfl, h⟩
theorem s_nisN (h : Q (.bl (!decide (x = .non))) H) : rIsNotU x .non H Q := .inl ⟨rfl, h⟩
theorem s_nisB {a b : Bool} (h : Q (.bl (!decide (a = b))) H) : rIsNotU (.bl a) (.bl b) H Q := .inr ⟨a, b, rfl, rfl, h⟩
theorem s_inS {c : Nat} {z : Str} (h : Q (.bl (decide (c ∈ z.cps.toList))) H) : rInU K (.str ⟨#[c]⟩) (.str z) H Q := .inl ⟨c, z, rfl, rfl, h⟩
theorem s_ninS {c : Nat} {z : Str} (h : Q (.bl (!decide (c ∈ z.cps.toList))) H) : rNotInU K (.str ⟨#[c]⟩) (.str z) H Q := .inl ⟨c, z, rfl, rfl, h⟩
theorem s_inT {p : Addr} {xs : List V} (hs : SqT K H p xs) (hx : flatV x = true) (ha : xs.all flatV = true) (h : Q (.bl (inV x xs)) H) : rInU K x (.ref p) H Q := .inr ⟨p, xs, rfl, .inr hs, hx, ha, h⟩
theorem s_iL {p : Addr} {xs : List V} {i : Int} (hp : H p = some (.lst xs)) (e : atI xs i = some v) (h : Q v H) : rIxU K (.ref p) (.int i) H Q := .inl ⟨p, xs, i, v, rfl, rfl, .inl (.inl hp), e, h⟩
theorem s_iT {p : Addr} {xs : List V} {i : Int} (hp : H p = some (.tup xs)) (e : atI xs i = some v) (h : Q v H) : rIxU K (.ref p) (.int i) H Q := .inr (.inl ⟨p, xs, i, v, rfl, rfl, .inl (.inl hp), e, h⟩)
theorem s_iS {z : Str} {i : Int} {c : Nat} (hz : z.length ≤ sizeLine) (e : atI z.cps.toList i = some c) (h : Q (.str ⟨#[c]⟩) H) : rIxU K (.str z) (.int i) H Q := .inr (.inr ⟨z, i, c, rfl, rfl, hz, e, h⟩)
theorem s_slice {r : V → Option Int → Option Int → Hp → VK → Prop} {tl th : TO} (h : te σ H fun x H1 => tl σ H1 fun l H2 => th σ H2 fun u H3 => r x l u H3 Q) : tSl r te tl th σ H Q := h
theorem s_part {R : Option Int → Hp → Prop} (h : te σ H fun x H1 => ∃ i, x = .int i ∧ R (some i) H1) : tPart te σ H R := h
theorem s_partI {R : Int → Prop} {i : Int} (h : R i) : ∃ j, V.int i = .int j ∧ R j := ⟨i, rfl, h⟩
theorem s_nopart {R : Option Int → Hp → Prop} (h : R none H) : tNoPart σ H R := h
theorem s_slS {z : Str} {lo hi : Option Int} (hz : z.length ≤ sizeLine) (h : Q (.str (cutS z lo hi)) H) : rSlU K (.str z) lo hi H Q := .inr ⟨z, rfl, hz, h⟩
theorem s_slL {p : Addr} {xs : List V} {lo hi : Option Int} (hs : SqL K H p xs) (h : ∀ q H2, H q = none → Ex H H2 → H2 q = some (.lst (cutV xs lo hi)) → Q (.ref q) H2) : rSlU K (.ref p) lo hi H Q :=
  .inl ⟨p, xs, rfl, hs, fun q hq => h q _ hq (ex_new hq) upd_same⟩
theorem s_cI {i : Int} (h : Q (.int i) H) : rIntU K [.int i] H Q := .inl (.inl ⟨i, rfl, h⟩)
theorem s_cB {b : Bool} (h : Q (.int (if b then 1 else 0)) H) : rIntU K [.bl b] H Q := .inl (.inr ⟨b, rfl, h⟩)
theorem s_cT {z : Str} {n : Int} (e : PySem.intText? z = some n) (hz : z.length ≤ 640) (h : Q (.int n) H) : rIntU K [.str z] H Q := .inr (.inl ⟨z, n, rfl, e, hz, h⟩)
theorem s_listL {p : Addr} {xs : List V} (hs : SqL K H p xs) (h : ∀ q H2, H q = none → Ex H H2 → H2 q = some (.lst xs) → Q (.ref q) H2) : rListU K [.ref p] H Q :=
  .inl ⟨p, xs, rfl, .inl hs, fun q hq => h q _ hq (ex_new hq) upd_same⟩
theorem s_isiT {n : String} {t : Value} {b : Bool} (ty : TyA K H x t) (e : PySem.W.kitOne K t (.type n) = some b) (h : Q (.bl b) H) : rIsiA K [x, .ty n] H Q := ⟨x, .ty n, t, .type n, b, rfl, .ty n, ty, e, h⟩
theorem s_chain {r r' : R2} {tc : TE} (h : ta σ H fun x H1 => tb σ H1 fun y H2 => r x y H2 fun z H3 => ∃ k, z = .bl k ∧ (if k = true then tc σ H3 fun w' H4 => r' y w' H4 Q else Q (.bl false) H3)) : tChain r r' ta tb tc σ H Q := h
theorem s_bm {T : String} {r : V → List V → Hp → VK → Prop} {t : TA} (h : te σ H fun x H1 => tyV K T x H1 ∧ t σ H1 fun xs H2 => r x xs H2 Q) : tBM K T r te t σ H Q := h
theorem s_tyL {p : Addr} {xs : List V} {R : Prop} (hp : H p = some (.lst xs)) (h : R) : tyV K "list" (.ref p) H ∧ R := ⟨.inl ⟨rfl, _, .inl (.inl hp)⟩, h⟩
theorem s_app {p : Addr} {xs : List V} (hp : H p = some (.lst xs)) (hz : xs.length < sizeLine) (h : Q .non (upd H p (.lst (xs ++ [y])))) : rAppend (.ref p) [y] H Q := ⟨p, xs, y, rfl, rfl, hp, hz, h⟩
theorem s_all {a : Addr} {bs : List Bool} (hs : H a = some (.lst (bs.map V.bl))) (h : Q (.bl (bs.all id)) H) : rAll K [.ref a] H Q := ⟨a, bs, rfl, .inl (.inl hs), h⟩
def LC (J : It) (g : TG) (tt : TT) (te : TE) (vs : List Nat) (σ : L2.St) (H1 : Hp) (Q : VK) : Prop := ∀ D, H1 D = none → ∃ W : Nat → Nat → Hp → Prop, (∃ m, W 0 m (upd H1 D (.lst []))) ∧ ∀ i m H, W i m H →
  (J.stop i H ∧ Q (.ref D) H) ∨ (J.go i H ∧ ∃ Nx : Hp → Prop, (∀ H', Nx H' → ∃ m', m' < m ∧ W (i + 1) m' H') ∧ ∀ x H', J.yld i H x H' → g x (wipe σ vs) H' fun σ2 H2 => wipe σ2 vs = wipe σ vs ∧ tt σ2 H2 fun b H3 =>
    if b = true then te σ2 H3 fun y H4 => ∃ acc, H4 D = some (.lst acc) ∧ acc.length < sizeLine ∧ Nx (upd H4 D (.lst (acc ++ [y]))) else Nx H3)
theorem s_lcS {g : TG} {tt : TT} {vs : List Nat} (h : ta σ H fun v H1 => ∃ z, v = .str z ∧ LC (Its z) g tt te vs σ H1 Q) : tLc (iStr ta) g tt te vs σ H Q := h
theorem s_lcR {g : TG} {tt : TT} {vs : List Nat} {tr : TA} (h : tr σ H fun ws H1 => ∃ j : Int, ws = [.int j] ∧ -(2 ^ 62) ≤ j ∧ j < 2 ^ 62 ∧ LC (Itr 0 j.toNat) g tt te vs σ H1 Q) : tLc (iRng1 tr) g tt te vs σ H Q := h
theorem s_strE {R : Str → Prop} {z : Str} (h : R z) : ∃ y, V.str z = .str y ∧ R y := ⟨z, rfl, h⟩
theorem lcStr {z : Str} {j : Nat} {tt : TT} {vs : List Nat} (p : Nat → Bool) (f : Nat → V) (hz : z.length < sizeLine) (hw : ∀ x, wipe ((wipe σ vs).set j (some x)) vs = wipe σ vs)
    (ht : ∀ (c : Nat) (H' : Hp) (R : Bool → Hp → Prop), R (p c) H' → tt ((wipe σ vs).set j (some (.str ⟨#[c]⟩))) H' R) (he : ∀ (c : Nat) (H' : Hp) (R : VK), p c = true → R (f c) H' → te ((wipe σ vs).set j (some (.str ⟨#[c]⟩))) H' R)
    (k : ∀ q H2, H q = none → Ex H H2 → H2 q = some (.lst ((z.cps.toList.filter p).map f)) → Q (.ref q) H2) : LC (Its z) (gName j) tt te vs σ H Q := by
  intro Dl hD
  have hlen : z.cps.toList.length = z.cps.size := Array.length_toList
  refine lc_it walk_str (fun i H' => Ex H H' ∧ H' Dl = some (.lst (((z.cps.toList.take i).filter p).map f)) ∧ ∀ b, b ≠ Dl → H' b = H b) ⟨ex_new hD, by rw [upd_same]; rfl, fun b hb => upd_ne hb⟩ (fun _ _ _ _ => trivial) ?_ ?_
  · rintro i x H1 H2 hi ⟨e1, e2, e3⟩ ⟨rfl, c, hc, rfl⟩
    have hc' : z.cps.toList[i]? = some c := by simpa using hc
    have htk : z.cps.toList.take (i + 1) = z.cps.toList.take i ++ [c] := by rw [List.take_add_one, hc']; rfl
    show wipe _ vs = wipe σ vs ∧ _
    refine ⟨hw _, ht c H2 _ ?_⟩
    refine iteB (fun hp => ?_) (fun hp => ?_)
    · refine he c H2 _ hp ⟨_, e2, ?_, fun b o hb => ?_, ?_, fun b hb => ?_⟩
      · rw [List.length_map]
        refine Nat.lt_of_le_of_lt (List.length_filter_le _ _) (Nat.lt_of_le_of_lt ?_ hz)
        rw [List.length_take]
        show _ ≤ z.cps.size
        omega
      · rw [upd_ne (ne_of_none hb hD)]
        exact e1 b o hb
      · rw [upd_same, htk, List.filter_append, List.map_append]
        simp [hp]
      · rw [upd_ne hb]; exact e3 b hb
    · refine ⟨e1, ?_, e3⟩
      rw [e2, htk, List.filter_append, List.map_append]
      simp [hp]
  · rintro H1 ⟨e1, e2, _⟩
    rw [show z.cps.size = z.cps.toList.length from hlen.symm, List.take_length] at e2
    exact k _ _ hD e1 e2
end
end L3
end
section
local macro_rules | `(tactic| tm_at "s1") => `(tactic| first
  | with_reducible first
    | refine L3.s_seq ?_ | refine L3.s_asg ?_ | refine L3.s_op ?_ | refine L3.s_c ?_ | refine L3.s_cb ?_ | refine L3.s_cons ?_ | refine L3.s_nil ?_ | refine L3.s_test ?_ | refine L3.s_bl ?_
    | refine L3.s_I0 ?_ | refine L3.s_and ?_ | refine L3.s_or ?_ | refine L3.s_not ?_ | refine L3.s_if ?_ | refine L3.s_next ?_ | refine L3.s_ret ?_ | refine L3.s_retN ?_ | refine L3.s_asgS ?_ | refine L3.s_drop ?_
    | refine L3.s_un ?_ | refine L3.s_U ?_ | refine L3.s_int ?_ | refine L3.s_intB ?_ | refine L3.s_abs ?_ | refine L3.s_andV ?_ | refine L3.s_orV ?_ | refine L3.s_notV ?_ | refine L3.s_ifE ?_ | refine L3.s_call ?_ | refine L3.s_lst ?_ | refine L3.s_tup ?_ | refine L3.s_tB ?_
    | refine L3.s_addI ?_ | refine L3.s_inS ?_ | refine L3.s_ninS ?_ | refine L3.s_slice ?_ | refine L3.s_part ?_ | refine L3.s_partI ?_ | refine L3.s_nopart ?_ | refine L3.s_cI ?_ | refine L3.s_cB ?_ | refine L3.s_chain ?_ | refine L3.s_bm ?_ | refine L3.s_lcS ?_ | refine L3.s_lcR ?_ | refine L3.s_strE ?_
    | refine L2.iteT ?_ | refine L2.iteF ?_ | refine L3.iteNF ?_ | refine L3.iteNT ?_
    | refine L3.s_eqI ?_ | refine L3.s_neI ?_ | refine L3.s_eqS ?_ | refine L3.s_neS ?_
    | refine L3.s_pair ?_ | refine L3.s_pair2 ?_ | refine L3.s_fld ?_ | refine L3.s_make ?_ | refine L3.s_m1 ?_ | refine L3.s_isstr ?_
    | refine L3.s_isN ?_ | refine L3.s_isB ?_ | refine L3.s_nisN ?_ | refine L3.s_nisB ?_
  | ((with_reducible refine' L3.s_var ?e ?_); (case e => rfl))
  | ((with_reducible refine' L3.s_pow ?c ?_); (case c => exact ⟨by decide, by decide, by decide⟩)))
local macro_rules | `(tactic| tm_at "s") => `(tactic| repeat tm_at "s1")
namespace L3
open PySem PySem.Spec PyProof.Rows L2
theorem mulL {i j : Int} (h : -(2 ^ 64) < i ∧ i < 2 ^ 64) : IntMulOk i j := CMul.ok (.inl h)
def spDraw : Sp := fun vs H Q _ => ∃ a n many, vs = [.ref a, .int many] ∧ 0 < many ∧ many.natAbs < 2 ^ 8000 ∧ Pen H a n ∧ n < lim ∧
  ∀ (d : Int) (H' : Hp), 0 ≤ d → d < many → Pen H' a (n + 1) → (∀ b o, b ≠ a → H b = some o → H' b = some o) → Q (.int d) H'
abbrev rSub : R2 := rI0 fun i j => V.int (i - j)
abbrev rMod : R2 := rI (fun _ j => 0 < j) fun i j => V.int (i % j)
abbrev rDivW : R2 := rI CDivW fun i j => V.int (i / j)
abbrev rPow : R2 := rI CPow fun i j => V.int (i ^ j.toNat)
abbrev t1 (r : List V → Hp → VK → Prop) (te : TE) : TE := tCB r (tCons te tNil)
abbrev tI (i : Int) : TE := tC (.int i)
def tDraw (K : PySem.W.Frag) (c1 c2 c3 c4 c5 c6 c7 c8 c9 c10 : Int) : TS :=
  tSeq (tIfS (tTest (tOp (rI0 fun i j => V.bl (decide (j < i))) (tOp (rIxU K) (tVar 0) (tI 2)) (tI 0)))
    (tSeq (tAsg (tOp rMod (t1 (rIntU K) (tOp (rIxU K) (tVar 0) (tI 2))) (tVar 1)) (gName 2))
    (tSeq (tAsg (tOp rDivW (t1 (rIntU K) (tOp (rIxU K) (tVar 0) (tI 2))) (tVar 1)) (gSub (tVar 0) (tI 2) rSetL))
      (tRet (tVar 2)))) tNext)
  (tSeq (tAsg (tOp (rIxU K) (tVar 0) (tI 1)) (gName 3))
  (tSeq (tAsg (tOp rAddU (tVar 3) (tI 1)) (gSub (tVar 0) (tI 1) rSetL))
  (tSeq (tAsg (tOp rAddU (tOp rMulU (tI c1) (tVar 3)) (tI c2)) (gName 4))
  (Evl.tCut (tIfS (tTest (tOp (rNeU K) (tOp (rIxU K) (tVar 0) (tI 0)) (tLst tNil)))
    (tAsg (tOp (rIxU K) (tOp (rIxU K) (tVar 0) (tI 0)) (tOp rMod (t1 (rIntU K) (tVar 3)) (t1 (rLen1 K) (tOp (rIxU K) (tVar 0) (tI 0))))) (gName 4)) tNext)
  (tSeq (tIfS (tAnd (tTest (tOp (rI0 fun i j => V.bl (decide (i < j))) (tVar 3) (t1 (rLen1 K) (tOp (rIxU K) (tVar 0) (tI 0))))) (tTest (tOp (rI0 fun i j => V.bl (decide (j ≤ i))) (t1 rAbs1 (tVar 4)) (tOp rPow (tI 10) (tI 18)))))
    (tSeq (tAsg (tOp rAddU (tOp rMulU (tI 2) (tOp rSub (t1 rAbs1 (tVar 4)) (tOp rPow (tI 10) (tI 18)))) (t1 (rIntU K) (tOp (rI0 fun i j => V.bl (decide (i < j))) (tVar 4) (tI 0)))) (gName 5))
    (tSeq (tAsg (tOp rDivW (t1 (rIntU K) (tVar 5)) (tVar 1)) (gSub (tVar 0) (tI 2) rSetL))
      (tRet (tOp rMod (t1 (rIntU K) (tVar 5)) (tVar 1))))) tNext)
  (tSeq (tAsg (tOp rMod (t1 (rIntU K) (tOp rPow (tOp rAddU (tOp rAddU (tOp rMod (t1 (rIntU K) (tVar 4)) (tI c3)) (tOp rMulU (tI c4) (tVar 3))) (tI c5)) (tI 5))) (tI c6)) (gName 6))
  (tSeq (tAsg (tOp rMod (t1 (rIntU K) (tOp rPow (tOp rAddU (tOp rAddU (tOp rMulU (tVar 6) (tOp rAddU (tOp rMulU (tI 2) (tVar 3)) (tI c7))) (tOp rMulU (tOp rMulU (tI c8) (tVar 3)) (tVar 3))) (tI c9)) (tI 3))) (tI c10)) (gName 6))
    (tRet (tOp rMod (t1 (rIntU K) (tOp rDivW (tVar 6) (tI 32))) (tVar 1))))))))))
structure DrawC (c1 c2 c3 c4 c5 c6 c7 c8 c9 c10 : Int) : Prop where
  h1 : 0 ≤ c1 ∧ c1 < 1000000
  h3 : 0 < c3 ∧ c3 < 4294967296
  h4 : 0 ≤ c4 ∧ c4 < 1000000
  h5 : 0 ≤ c5 ∧ c5 < 1000000
  h6 : 0 < c6 ∧ c6 < 4294967296
  h7 : 0 ≤ c7 ∧ c7 < 1000000
  h8 : 0 ≤ c8 ∧ c8 < 1000000
  h9 : 0 ≤ c9 ∧ c9 < 1000000
  h10 : 0 < c10 ∧ c10 < 4294967296
theorem shInts (ns : List Int) : SeqAt.shaped (.list (ns.map PyData.int)) = true := by
  have h1 : ∀ l : List Int, PyData.canLayAll0 (l.map PyData.int) = true := by
    intro l
    induction l with
    | nil => rfl
    | cons x r ih => rw [List.map_cons]; unfold PyData.canLayAll0; rw [ih]; rfl
  have h2 : ∀ l : List Int, PyData.depthAll (l.map PyData.int) = 0 := by
    intro l
    induction l with
    | nil => rfl
    | cons x r ih => rw [List.map_cons]; unfold PyData.depthAll; rw [ih]; rfl
  unfold SeqAt.shaped PyData.canLay0 PyData.depth
  rw [h1, h2]; decide
theorem atI_int {α : Type} {xs : List α} {i : Int} (h0 : 0 ≤ i) (h : i < xs.length) : atI xs i = xs[i.toNat]? := by
  unfold atI ixN
  rw [if_pos h0, if_pos h]
  rfl
theorem natAbs_lt {x : Int} {k : Nat} (h0 : 0 ≤ x) (h : x < k) : x.natAbs < k := by omega
theorem rd_draw {K : PySem.W.Frag} {c1 c2 c3 c4 c5 c6 c7 c8 c9 c10 : Int} (C : DrawC c1 c2 c3 c4 c5 c6 c7 c8 c9 c10) {a c : Addr} {n : Nat} {many : Int} {ns : List Int} {H : Hp} {Q : VK} {Nn : L2.St → Hp → Prop} {B1 B2 : L2.St → Hp → Prop}
    (hm : 0 < many) (hm2 : many.natAbs < 2 ^ 8000) (ha : H a = some (PenO a c n)) (hc : H c = some (.lst (ns.map V.int))) (hn : n < lim) (hl : ns.length ≤ 63)
    (k : ∀ (d : Int) (H' : Hp), 0 ≤ d → d < many → (H' a = some (PenO a c (n + 1)) ∧ H' c = some (.lst (ns.map V.int))) → (∀ b o, b ≠ a → H b = some o → H' b = some o) → Q (.int d) H') :
    tPen a c n (n + 1) (tDraw K c1 c2 c3 c4 c5 c6 c7 c8 c9 c10) { nx := Nn, rt := Q, bk := B1, ct := B2 } [some (.ref a), some (.int many), none, none, none, none, none] H := by
  refine ⟨ha, fun spot rest h0 h1 => ?_⟩
  have nca : c ≠ a := fun z => by rw [z, ha] at hc; cases hc
  have fin : ∀ (d spot' rest' : Int) (H1 : Hp), 0 ≤ d → d < many → 0 ≤ spot' → spot' ≤ n + 1 → H1 a = some (.lst [.ref c, .int spot', .int rest']) → (∀ b o, b ≠ a → H b = some o → H1 b = some o) → penBack a c (n + 1) (Q (.int d)) H1 := by
    intro d sp re H1 d0 d1 s0 s1 e q
    exact ⟨sp, re, e, s0, by omega, k d _ d0 d1 ⟨upd_same, by rw [upd_ne nca]; exact q c _ nca hc⟩ (fun b o hb => by rw [upd_ne hb]; exact q b o hb)⟩
  unfold tDraw
  tm_at "s"
  refine s_iL upd_same rfl ?_
  tm_at "s"
  refine iteD (fun hpos => ?_) (fun _ => ?_)
  · tm_at "s"
    refine s_iL upd_same rfl ?_
    tm_at "s"
    refine s_I hm ?_
    tm_at "s"
    refine s_iL upd_same rfl ?_
    tm_at "s"
    refine s_I (wide_div hm hm2 (by decide) (by decide)) ?_
    tm_at "s"
    refine s_setL upd_same rfl ?_
    tm_at "s"
    exact fin _ spot _ _ (Int.emod_nonneg _ (by omega)) (Int.emod_lt_of_pos _ hm) h0 (by omega) upd_same (fun b o hb hh => by rw [upd_ne hb, upd_ne hb]; exact hh)
  · tm_at "s"
    refine s_iL upd_same rfl ?_
    tm_at "s"
    refine s_setL upd_same rfl ?_
    have hs : (spot : Int) ≤ 1000000 := by unfold lim at hn; omega
    tm_at "s"
    refine s_mulI (mulL ⟨by have := C.h1; omega, by have := C.h1; omega⟩) ?_
    tm_at "s"
    refine s_cut (M := fun σ' H' => ∃ cell : Int, σ' = [some (.ref a), some (.int many), none, some (.int spot), some (.int cell), none, none] ∧ H' a = some (.lst [.ref c, .int (spot + 1), .int rest]) ∧ ∀ b o, b ≠ a → H b = some o → H' b = some o) ?_ ?_
    · tm_at "s"
      refine s_iL upd_same rfl ?_
      tm_at "s"
      refine s_new (by decide) fun p H2 hp e2 h2 => ?_
      have a2 : H2 a = some (.lst [.ref c, .int (spot + 1), .int rest]) := e2 _ _ upd_same
      have k2 : ∀ b o, b ≠ a → H b = some o → H2 b = some o := fun b o hb hh => e2 _ _ (by rw [upd_ne hb, upd_ne hb]; exact hh)
      have c2 := k2 c _ nca hc
      clear hp e2
      refine s_neD' (.lst (.inl (.inl c2)) (dpInts ns)) (.lst (.inl (.inl h2)) .nil) (shInts ns) rfl ?_
      tm_at "s"
      refine iteB (fun hne => ?_) (fun _ => ?_)
      · tm_at "s"
        refine s_iL a2 rfl ?_
        tm_at "s"
        refine s_iL a2 rfl ?_
        tm_at "s"
        refine s_lenL c2 ?_
        rw [List.length_map]
        have hns : 0 < ns.length := by
          cases ns with
          | nil => exact absurd hne (by decide)
          | cons x r => exact Nat.succ_pos _
        refine s_I (by omega) ?_
        have hx : spot % (ns.length : Int) < ns.length := Int.emod_lt_of_pos _ (by omega)
        have hx0 : 0 ≤ spot % (ns.length : Int) := Int.emod_nonneg _ (by omega)
        have hxn : (spot % (ns.length : Int)).toNat < ns.length := by omega
        refine s_iL c2 (v := .int (ns[(spot % (ns.length : Int)).toNat]'hxn)) ?_ ?_
        · rw [atI_int hx0 (by rw [List.length_map]; exact hx), List.getElem?_map, List.getElem?_eq_getElem hxn]
          rfl
        · exact ⟨_, rfl, a2, k2⟩
      · tm_at "s"
        exact ⟨_, rfl, a2, k2⟩
    · rintro σ' H2 ⟨cell, rfl, a2, k2⟩
      have c2 := k2 c _ nca hc
      have main : (tSeq (tAsg (tOp rMod (t1 (rIntU K) (tOp rPow (tOp rAddU (tOp rAddU (tOp rMod (t1 (rIntU K) (tVar 4)) (tI c3)) (tOp rMulU (tI c4) (tVar 3))) (tI c5)) (tI 5))) (tI c6)) (gName 6))
          (tSeq (tAsg (tOp rMod (t1 (rIntU K) (tOp rPow (tOp rAddU (tOp rAddU (tOp rMulU (tVar 6) (tOp rAddU (tOp rMulU (tI 2) (tVar 3)) (tI c7))) (tOp rMulU (tOp rMulU (tI c8) (tVar 3)) (tVar 3))) (tI c9)) (tI 3))) (tI c10)) (gName 6))
            (tRet (tOp rMod (t1 (rIntU K) (tOp rDivW (tVar 6) (tI 32))) (tVar 1)))))
          { nx := fun σ' => penBack a c (n + 1) (Nn σ'), rt := fun v => penBack a c (n + 1) (Q v), bk := fun σ' => penBack a c (n + 1) (B1 σ'), ct := fun σ' => penBack a c (n + 1) (B2 σ') }
          [some (.ref a), some (.int many), none, some (.int spot), some (.int cell), none, none] H2 := by
        have hc3 := C.h3; have hc4 := C.h4; have hc5 := C.h5; have hc6 := C.h6; have hc7 := C.h7; have hc8 := C.h8; have hc9 := C.h9; have hc10 := C.h10
        tm_at "s"
        refine s_I hc3.1 ?_
        tm_at "s"
        refine s_mulI (mulL ⟨by omega, by omega⟩) ?_
        tm_at "s"
        have e1 : 0 ≤ cell % c3 := Int.emod_nonneg _ (by omega)
        have e2 : cell % c3 < c3 := Int.emod_lt_of_pos _ hc3.1
        have e3 : 0 ≤ c4 * spot := Int.mul_nonneg hc4.1 h0
        have e4 : c4 * spot ≤ 1000000 * 1000000 := Int.mul_le_mul (by omega) hs h0 (by decide)
        refine s_pow ⟨by decide, by decide, ?_⟩ ?_
        · exact natAbs_lt (by omega) (by show _ < ((2 ^ 64 : Nat) : Int); omega)
        tm_at "s"
        refine s_I hc6.1 ?_
        generalize hg : ((cell % c3 + c4 * spot + c5) ^ (Int.toNat 5)) % c6 = g
        have g0 : 0 ≤ g := by rw [← hg]; exact Int.emod_nonneg _ (by omega)
        have g1 : g < c6 := by rw [← hg]; exact Int.emod_lt_of_pos _ hc6.1
        tm_at "s"
        refine s_mulI (mulL (by decide)) ?_
        tm_at "s"
        refine s_mulI (mulL ⟨by omega, by omega⟩) ?_
        tm_at "s"
        refine s_mulI (mulL ⟨by omega, by omega⟩) ?_
        have f3 : 0 ≤ c8 * spot := Int.mul_nonneg hc8.1 h0
        have f4 : c8 * spot ≤ 1000000 * 1000000 := Int.mul_le_mul (by omega) hs h0 (by decide)
        tm_at "s"
        refine s_mulI (mulL ⟨by omega, by omega⟩) ?_
        have f5 : 0 ≤ c8 * spot * spot := Int.mul_nonneg f3 h0
        have f6 : c8 * spot * spot ≤ 1000000 * 1000000 * 1000000 := Int.mul_le_mul f4 hs h0 (by decide)
        have f7 : 0 ≤ g * (2 * spot + c7) := Int.mul_nonneg g0 (by omega)
        have f8 : g * (2 * spot + c7) ≤ 4294967296 * 3000000 := Int.mul_le_mul (by omega) (by omega) (by omega) (by decide)
        tm_at "s"
        refine s_pow ⟨by decide, by decide, ?_⟩ ?_
        · exact natAbs_lt (by omega) (by show _ < ((2 ^ 64 : Nat) : Int); omega)
        tm_at "s"
        refine s_I hc10.1 ?_
        tm_at "s"
        refine s_I (wide_div (b := 64) (by decide) (by decide) (by decide) (by decide)) ?_
        tm_at "s"
        refine s_I hm ?_
        exact fin _ (spot + 1) rest _ (Int.emod_nonneg _ (by omega)) (Int.emod_lt_of_pos _ hm) (by omega) (by omega) a2 k2
      tm_at "s"
      refine s_iL a2 rfl ?_
      tm_at "s"
      refine s_lenL c2 ?_
      tm_at "s"
      refine iteD (fun _ => ?_) (fun _ => ?_)
      · tm_at "s"
        refine iteD (fun hbig => ?_) (fun _ => ?_)
        · tm_at "s"
          refine s_mulI (mulL (by decide)) ?_
          tm_at "s"
          refine s_I (wide_div hm hm2 (by decide) (by decide)) ?_
          tm_at "s"
          refine s_setL a2 rfl ?_
          tm_at "s"
          refine s_I hm ?_
          exact fin _ (spot + 1) _ _ (Int.emod_nonneg _ (by omega)) (Int.emod_lt_of_pos _ hm) (by omega) (by omega) upd_same (fun b o hb hh => by rw [upd_ne hb]; exact k2 b o hb hh)
        · exact main
      · refine iteF ?_
        exact main
theorem rd_drawS {K : PySem.W.Frag} {c1 c2 c3 c4 c5 c6 c7 c8 c9 c10 : Int} (C : DrawC c1 c2 c3 c4 c5 c6 c7 c8 c9 c10) {a c : Addr} {n : Nat} {many : Int} {ns : List Int} {H : Hp} {Q : VK} {Nn : L2.St → Hp → Prop} {B1 B2 : L2.St → Hp → Prop}
    (hm : 0 < many) (hm2 : many.natAbs < 2 ^ 8000) (ha : H a = some (PenO a c n)) (hc : H c = some (ScO c ns)) (hn : n < lim) (hl : ns.length ≤ 63 ∧ c ≠ a)
    (k : ∀ (d : Int) (H' : Hp), 0 ≤ d → d < many → Pen H' a (n + 1) → (∀ b o, b ≠ a → H b = some o → H' b = some o) → Q (.int d) H') :
    tSc c ns (tPen a c n (n + 1) (tDraw K c1 c2 c3 c4 c5 c6 c7 c8 c9 c10)) { nx := Nn, rt := Q, bk := B1, ct := B2 } [some (.ref a), some (.int many), none, none, none, none, none] H := by
  refine ⟨hc, rd_draw C hm hm2 (by rw [upd_ne (Ne.symm hl.2)]; exact ha) upd_same hn hl.1 fun d H' d0 d1 ⟨p1, p2⟩ q => ?_⟩
  refine ⟨p2, k d _ d0 d1 ⟨c, ns, by rw [upd_ne (Ne.symm hl.2)]; exact p1, upd_same, hl⟩ fun b o hb ho => ?_⟩
  by_cases hbc : b = c
  · subst hbc
    rw [upd_same, ← hc]; exact ho
  · rw [upd_ne hbc]
    exact q b o hb (by rw [upd_ne hbc]; exact ho)
end L3
end
section
namespace L3
open PySem PySem.Spec PyProof.Rows L2 PySem.NumText
theorem str_ext {a b : Str} (h : a.cps.toList = b.cps.toList) : a = b := by
  cases a; cases b
  have := Array.ext' h
  cases this; rfl
theorem cut_take (z : Str) : (cutS z none (some 1)).cps.toList = z.cps.toList.take 1 := by
  unfold cutS
  have e0 : HT.sIx z.length 0 none = 0 := rfl
  have e1 : z.cps.toList.length = z.length := Array.length_toList
  rw [e0, List.drop_zero, Nat.sub_zero]
  show z.cps.toList.take (HT.sIx z.length z.length (some 1)) = _
  have : HT.sIx z.length z.length (some 1) = min 1 z.length := by
    unfold HT.sIx
    simp
    try omega
  rw [this]
  by_cases h : z.length = 0
  · rw [h]
    have : z.cps.toList = [] := List.length_eq_zero_iff.mp (e1.trans h)
    rw [this]; rfl
  · rw [show min 1 z.length = 1 by omega]
theorem cut_drop (z : Str) : (cutS z (some 1) none).cps.toList = z.cps.toList.drop 1 := by
  unfold cutS
  have e1 : z.cps.toList.length = z.length := Array.length_toList
  have e0 : HT.sIx z.length z.length none = z.length := rfl
  rw [e0]
  have : HT.sIx z.length 0 (some 1) = min 1 z.length := by
    unfold HT.sIx
    simp
    try omega
  rw [this]
  show (z.cps.toList.drop (min 1 z.length)).take (z.length - min 1 z.length) = _
  rw [List.take_of_length_le (by rw [List.length_drop]; omega)]
  by_cases h : z.length = 0
  · have : z.cps.toList = [] := List.length_eq_zero_iff.mp (e1.trans h)
    rw [this]; simp
  · rw [show min 1 z.length = 1 by omega]
abbrev digT : Str := "0123456789"
def isDig (c : Nat) : Bool := decide (c ∈ digT.cps.toList)
theorem isDig_iff (c : Nat) : isDig c = true ↔ 48 ≤ c ∧ c ≤ 57 := by
  unfold isDig
  rw [decide_eq_true_eq]
  show c ∈ [48, 49, 50, 51, 52, 53, 54, 55, 56, 57] ↔ _
  simp only [List.mem_cons, List.not_mem_nil, or_false]
  omega
def figsOf (z : Str) : Str := if decide (cutS z none (some 1) = "-") = true then cutS z (some 1) none else z
theorem figs_neg {z : Str} {r : List Nat} (h : z.cps.toList = 45 :: r) : (figsOf z).cps.toList = r := by
  unfold figsOf
  rw [if_pos, cut_drop, h]
  · rfl
  · refine decide_eq_true (str_ext ?_)
    rw [cut_take, h]; rfl
theorem figs_pos {z : Str} (h : z.cps.toList.head? ≠ some 45) : figsOf z = z := by
  unfold figsOf
  rw [if_neg]
  intro q
  have q := of_decide_eq_true q
  have q2 : (cutS z none (some 1)).cps.toList = [45] := by rw [q]; rfl
  rw [cut_take] at q2
  cases hz : z.cps.toList with
  | nil => rw [hz] at q2; cases q2
  | cons c r =>
    rw [hz] at q2 h
    have : c = 45 := by simpa using q2
    exact h (by rw [this]; rfl)
def figB (z : Str) : Bool := ((decide (1 ≤ ((figsOf z).length : Int)) && decide (((figsOf z).length : Int) ≤ 4000)) && (figsOf z).cps.toList.all isDig) && (decide (z = "0") || !decide ((figsOf z).cps.toList.head? = some 48))
theorem digits_all {l : List Nat} (h : l.all isDig = true) : AllDigits l := fun c hc => (isDig_iff c).mp (List.all_eq_true.mp h c hc)
/-- the number that a text of figures writes -/
def valOf (z : Str) : Int := if z.cps.toList.head? = some 45 then -((digitsVal (z.cps.toList.drop 1) : Nat) : Int) else ((digitsVal z.cps.toList : Nat) : Int)
theorem len_codes (z : Str) : z.cps.toList.length = z.length := Array.length_toList
/-- figures alone, at least one and at most 4,299 of them: the number is read -/
theorem read_figs {z : Str} (h1 : (figsOf z).cps.toList ≠ []) (h2 : (figsOf z).cps.toList.all isDig = true) (h3 : (figsOf z).length ≤ 4000) : PySem.intText? z = some (valOf z) := by
  unfold valOf
  by_cases hn : z.cps.toList.head? = some 45
  · rw [if_pos hn]
    obtain ⟨r, hr⟩ : ∃ r, z.cps.toList = 45 :: r := by
      cases hz : z.cps.toList with
      | nil => rw [hz] at hn; cases hn
      | cons c r => rw [hz] at hn; have : c = 45 := by simpa using hn
                    subst this; exact ⟨r, rfl⟩
    rw [figs_neg hr] at h1 h2
    have h4 := len_codes (figsOf z)
    rw [figs_neg hr] at h4
    have h5 := len_codes z
    rw [hr] at h5
    rw [intText_neg hr (digits_all h2) h1 (by simp at h5; omega), hr]
    rfl
  · rw [if_neg hn]
    rw [figs_pos hn] at h1 h2 h3
    exact intText_digits (digits_all h2) h1 (by omega)
def strOf (n : Int) : Str := Str.ofString (toString n)
theorem strOf_nat (n : Nat) : (strOf (n : Int)).cps.toList = TL.numL n := TL.tl_num n
theorem ofString_codes (s : String) : (Str.ofString s).cps.toList = s.toList.map Char.toNat := by
  rw [Str.ofString_eq_toList]
theorem strOf_neg {m : Nat} (h : 0 < m) : (strOf (-(m : Int))).cps.toList = 45 :: TL.numL m := by
  obtain ⟨k, rfl⟩ : ∃ k, m = k + 1 := ⟨m - 1, by omega⟩
  have e : toString (-((k + 1 : Nat) : Int)) = "-" ++ toString (((k + 1 : Nat) : Int)) := rfl
  unfold strOf
  rw [e, ofString_codes, String.toList_append, List.map_append, ← ofString_codes, ← ofString_codes]
  show [45] ++ _ = _
  have := strOf_nat (k + 1)
  unfold strOf at this
  rw [this]
  rfl
theorem val_snoc (ds : List Nat) (c : Nat) : digitsVal (ds ++ [c]) = digitsVal ds * 10 + (c - 48) := by
  unfold digitsVal
  rw [List.foldl_append]
  rfl
theorem canon : ∀ (n : Nat) (ds : List Nat), ds.length = n → AllDigits ds → ds ≠ [] → ds.head? ≠ some 48 → TL.numL (digitsVal ds) = ds ∧ 0 < digitsVal ds := by
  intro n
  induction n with
  | zero => intro ds h _ hne; exact absurd (List.length_eq_zero_iff.mp h) hne
  | succ n ih =>
    intro ds hl ha hne hh
    have hd : ds = ds.dropLast ++ [ds.getLast hne] := (List.dropLast_concat_getLast hne).symm
    generalize ds.getLast hne = c at hd
    generalize ds.dropLast = es at hd
    subst hd
    have hc := ha c (by simp)
    rw [val_snoc]
    by_cases he : es = []
    · subst he
      have hc0 : c ≠ 48 := fun z => hh (by rw [z]; rfl)
      show TL.numL (0 * 10 + (c - 48)) = [c] ∧ _
      rw [Nat.zero_mul, Nat.zero_add, TL.numL_lt (by omega)]
      exact ⟨by rw [show 48 + (c - 48) = c by omega], by show 0 < 0 * 10 + (c - 48); omega⟩
    · have hl' : es.length = n := by simp at hl; omega
      have hh' : es.head? ≠ some 48 := by
        cases es with
        | nil => exact absurd rfl he
        | cons a b => exact hh
      obtain ⟨i1, i2⟩ := ih es hl' (fun d hd => ha d (by simp [hd])) he hh'
      refine ⟨?_, by omega⟩
      rw [TL.numL_step (by omega), show (digitsVal es * 10 + (c - 48)) / 10 = digitsVal es by omega, i1, show (digitsVal es * 10 + (c - 48)) % 10 = c - 48 by omega, show 48 + (c - 48) = c by omega]
theorem numL_head (n : Nat) : TL.numL n = [48] ∧ n = 0 ∨ (TL.numL n).head? ≠ some 48 ∧ 0 < n := by
  induction n using Nat.strongRecOn with
  | _ n ih =>
    by_cases h : n < 10
    · rw [TL.numL_lt h]
      by_cases h0 : n = 0
      · left; subst h0; exact ⟨rfl, rfl⟩
      · right; exact ⟨fun z => by have : 48 + n = 48 := by simpa using z
                                  omega, by omega⟩
    · right
      refine ⟨?_, by omega⟩
      rw [TL.numL_step (by omega)]
      rcases ih (n / 10) (by omega) with ⟨_, z⟩ | ⟨z, _⟩
      · omega
      · cases hq : TL.numL (n / 10) with
        | nil => exact absurd hq (TL.numL_ne _)
        | cons a b => rw [hq] at z; exact z
theorem head45 {l : List Nat} (h : l.head? = some 45) : ∃ r, l = 45 :: r := by
  cases l with
  | nil => cases h
  | cons c r => have : c = 45 := by simpa using h
                subst this; exact ⟨r, rfl⟩
/-- what str writes is just the text without a nought in front -/
theorem str_back {z : Str} (h1 : (figsOf z).cps.toList ≠ []) (h2 : (figsOf z).cps.toList.all isDig = true) :
    decide (strOf (valOf z) = z) = (decide (z = "0") || !decide ((figsOf z).cps.toList.head? = some 48)) := by
  have hx : ∀ {a : Str}, decide (a = z) = decide (a.cps.toList = z.cps.toList) := fun {a} => by
    by_cases h : a = z
    · subst h; simp
    · rw [decide_eq_false h, decide_eq_false fun q => h (str_ext q)]
  have hz0 : decide (z = "0") = decide (z.cps.toList = [48]) := by
    by_cases h : z = "0"
    · subst h; decide +kernel
    · rw [decide_eq_false h]
      exact (decide_eq_false fun q => h (str_ext q)).symm
  rw [hx, hz0]
  unfold valOf
  by_cases hn : z.cps.toList.head? = some 45
  · rw [if_pos hn]
    obtain ⟨r, hr⟩ := head45 hn
    rw [figs_neg hr] at h1 h2 ⊢
    rw [hr]
    have ha := digits_all h2
    show decide ((strOf (-((digitsVal r : Nat) : Int))).cps.toList = 45 :: r) = (decide ((45 :: r : List Nat) = [48]) || _)
    rw [decide_eq_false (show ¬ (45 :: r : List Nat) = [48] from fun q => by cases q), Bool.false_or]
    by_cases hh : r.head? = some 48
    · rw [decide_eq_true hh]
      refine decide_eq_false fun q => ?_
      by_cases h0 : digitsVal r = 0
      · rw [h0] at q
        have e : (strOf (-((0 : Nat) : Int))).cps.toList = [48] := by decide +kernel
        rw [e] at q; cases q
      · rw [strOf_neg (by omega)] at q
        have q2 : TL.numL (digitsVal r) = r := (List.cons.inj q).2
        rcases numL_head (digitsVal r) with ⟨_, z⟩ | ⟨z, _⟩
        · exact h0 z
        · rw [q2] at z; exact z hh
    · rw [decide_eq_false hh]
      obtain ⟨c1, c2⟩ := canon _ r rfl ha h1 hh
      refine decide_eq_true ?_
      rw [strOf_neg c2, c1]
  · rw [if_neg hn]
    rw [figs_pos hn] at h1 h2 ⊢
    have ha := digits_all h2
    rw [strOf_nat]
    by_cases hh : z.cps.toList.head? = some 48
    · rw [decide_eq_true hh, Bool.not_true, Bool.or_false]
      by_cases hz : z.cps.toList = [48]
      · rw [hz]; decide +kernel
      · rw [decide_eq_false hz]
        refine decide_eq_false fun q => ?_
        rcases numL_head (digitsVal z.cps.toList) with ⟨y, _⟩ | ⟨y, _⟩
        · rw [q] at y; exact hz y
        · rw [q] at y; exact y hh
    · rw [decide_eq_false hh, Bool.not_false, Bool.or_true]
      exact decide_eq_true (canon _ _ rfl ha h1 hh).1
theorem figs_len (z : Str) : (figsOf z).length ≤ z.length := by
  unfold figsOf
  split
  · rw [← len_codes, ← len_codes z, cut_drop, List.length_drop]
    omega
  · exact Nat.le_refl _
theorem figs_sign {z : Str} (h2 : (figsOf z).cps.toList.all isDig = true) : ∀ c ∈ z.cps.toList, c = 45 ∨ (48 ≤ c ∧ c ≤ 57) := by
  intro c hc
  by_cases hn : z.cps.toList.head? = some 45
  · obtain ⟨r, hr⟩ := head45 hn
    rw [figs_neg hr] at h2
    rw [hr] at hc
    rcases List.mem_cons.mp hc with rfl | hc
    · exact .inl rfl
    · exact .inr (digits_all h2 c hc)
  · rw [figs_pos hn] at h2
    exact .inr (digits_all h2 c hc)
/-- int(z) of figures -/
theorem s_cF {K : PySem.W.Frag} {H : Hp} {Q : VK} {z : Str} (h1 : (figsOf z).cps.toList ≠ []) (h2 : (figsOf z).cps.toList.all isDig = true) (h3 : (figsOf z).length ≤ 4000) (hz : z.length ≤ sizeLine)
    (hk : PySem.W.nsIn K cStatics "sys.int_max_str_digits" = some none) (h : Q (.int (valOf z)) H) : rIntU K [.str z] H Q := by
  have hr := read_figs h1 h2 h3
  by_cases hl : z.length ≤ 640
  · exact s_cT hr hl h
  · refine .inr (.inr ⟨z, _, rfl, hr, hk, fun q => hl ?_, hz, h⟩)
    obtain ⟨e1, e2⟩ := numText_signs (figs_sign h2)
    have : numSeenOf z = z.cps.toList := by first | exact e2 | exact e1
    rw [this, len_codes] at q
    exact q
end L3
end
section
namespace L3
open PySem PySem.Spec PyProof.Rows L2 LamX
theorem pen_heap (a c : Addr) (n : Nat) : ∃ h : Heap, (∃ (spot rest : Int) (t u : Tok) (k : Nat), h.get? a = some { cls := .type "list", data := .seq #[.ref c, .int spot t, .int rest u] k } ∧ 0 ≤ spot ∧ spot ≤ n) ∧
    ∀ b o, h.get? b = some o → o.cls = .type "list" ∧ ∀ vs, o.data ≠ .fields vs := by
  let ob : Obj := { cls := .type "list", data := .seq #[.ref c, .int 0 0, .int 0 0] 0 }
  refine ⟨{ objs := Array.replicate (a + 1) ob }, ⟨0, 0, 0, 0, 0, ?_, by decide, by omega⟩, fun b o e => ?_⟩
  · unfold Heap.get?
    have : (Array.replicate (a + 1) ob)[a]? = some ob := by simp
    show (match (Array.replicate (a + 1) ob)[a]? with | some ⟨_, _, .freed, _⟩ => none | o => o) = _
    rw [this]
  · unfold Heap.get? at e
    have q : (Array.replicate (a + 1) ob)[b]? = none ∨ (Array.replicate (a + 1) ob)[b]? = some ob := by
      by_cases h : b < a + 1
      · right; simp [h]
      · left; exact Array.getElem?_eq_none (by rw [Array.size_replicate]; exact Nat.le_of_not_lt h)
    change (match (Array.replicate (a + 1) ob)[b]? with | some ⟨_, _, .freed, _⟩ => none | o => o) = some o at e
    rcases q with q | q
    · rw [q] at e; cases e
    · rw [q] at e; cases e
      exact ⟨rfl, fun vs z => nomatch z⟩
theorem codeO_pen {k a c : Addr} {n : Nat} {q : Str} : CodeO k q ≠ PenO a c n := fun e => by
  unfold CodeO PenO at e
  injection e with e
  obtain ⟨h, h1, h2⟩ := pen_heap a c n
  rw [← congrFun e h] at h1
  obtain ⟨o, vs, _, g1, g2, _⟩ := h1
  exact (h2 _ _ g1).2 vs g2
/-- the pen stands, so do the tables -/
structure Wo (T : List (Addr × Str)) (H : Hp) (a : Addr) (n : Nat) : Prop where
  pen : Pen H a n
  tabs : Tabs T H
/-- an object that is told otherwise than a pen does not lie at the pen's place -/
theorem Pen.ne {H : Hp} {a : Addr} {n : Nat} (p : Pen H a n) {b : Addr} {o : HO} (h : H b = some o) (d : ∀ c n, o ≠ PenO a c n) : b ≠ a := fun z => by
  obtain ⟨c, ns, ha, _⟩ := p
  rw [z, ha] at h
  exact d c n (Option.some.inj h).symm
theorem Wo.keep {T : List (Addr × Str)} {H H' : Hp} {a : Addr} {n m : Nat} (w : Wo T H a n) (p : Pen H' a m) (k : ∀ b o, b ≠ a → H b = some o → H' b = some o) : Wo T H' a m := by
  refine ⟨p, fun t ht => ?_⟩
  obtain ⟨ps, h1, h2, h3⟩ := w.tabs t ht
  refine ⟨ps, k _ _ (w.pen.ne h1 fun c n z => by unfold PenO at z; cases z) h1, h2, fun pos cv hc => ?_⟩
  obtain ⟨c, e1, e2⟩ := h3 pos cv hc
  exact ⟨c, e1, k _ _ (w.pen.ne e2 fun _ _ => codeO_pen) e2⟩
theorem Wo.ex {T : List (Addr × Str)} {H H' : Hp} {a : Addr} {n : Nat} (w : Wo T H a n) (k : Ex H H') : Wo T H' a n := by
  obtain ⟨c, ns, h1, h2, h3⟩ := w.pen
  exact ⟨⟨c, ns, k _ _ h1, k _ _ h2, h3⟩, w.tabs.ext k⟩
theorem Xt.trans {a : Addr} {H H1 H2 : Hp} (x : Xt a H H1) (y : Xt a H1 H2) : Xt a H H2 := fun b o h1 h2 h => y b o h1 h2 (x b o h1 h2 h)
theorem Xt.of {a : Addr} {H H' : Hp} (k : ∀ b o, b ≠ a → H b = some o → H' b = some o) : Xt a H H' := fun b o h _ e => k b o h e
def tPenNew (t : TS) : TS := fun D σ H => t { D with rt := fun v H' => ∃ p c rest ns, v = .ref p ∧ H' p = some (.lst [.ref c, .int 0, .int rest]) ∧ H' c = some (.lst ((ns : List Int).map V.int)) ∧ c ≠ p ∧ D.rt v (upd (upd H' p (PenO p c 0)) c (ScO c ns)) } σ H
theorem pss_penNew {X : Cx} {sts : List Stmt} {t : TS} (h : PSs X sts t) : PSs X sts (tPenNew t) := by
  refine ⟨fun pins s σ H D I hw => thn (h.run pins s σ H _ I hw) fun f s' q => ?_⟩
  match f, q with
  | .next, q => exact q
  | .brk, q => exact q
  | .cont, q => exact q
  | .ret u, q =>
    obtain ⟨v, σ', H', I', r, p, c, rest, ns, e, hp, hc, hn, z⟩ := q
    exact ⟨v, σ', _, Inv.scClose (Inv.penClose I' hp (Int.le_refl 0) (Int.le_refl 0)) (by rw [upd_ne hn]; exact hc), r, z⟩
def spPen (K : PySem.W.Frag) : Sp := fun vs H Q _ => ∃ a ns, vs = [.ref a] ∧ SqL K H a (ns.map V.int) ∧ (ns : List Int).length ≤ 63 ∧ ∀ p H', H p = none → Ex H H' → Pen H' p 0 → Q (.ref p) H'
def spPick : Sp := fun vs H Q _ => ∃ a l n xs, vs = [.ref a, .ref l] ∧ H l = some (.lst xs) ∧ xs ≠ [] ∧ xs.length ≤ 100000 ∧ Pen H a n ∧ n < lim ∧
  ∀ v H', v ∈ xs → Pen H' a (n + 1) → (∀ b o, b ≠ a → H b = some o → H' b = some o) → Q v H'
end L3
end
section
namespace L3
open PySem PySem.Spec PyProof.Rows L2
end L3
end
section
namespace L3
open PySem PySem.Spec PyProof.Rows L2
variable {K : PySem.W.Frag} {σ : L2.St} {H : Hp} {te : TE} {Q : VK}
def flatD : V → PyData
  | .int i => .int i
  | .bl b => .bool b
  | .str z => .str z
  | _ => .none
def fitF : V → Bool
  | .int i => decide (i.natAbs.log2 < 1920)
  | .bl _ => true
  | .non => true
  | _ => false
theorem len_app (a b : Str) : (a ++ b).length = a.length + b.length := by
  rw [← len_codes, ← len_codes, ← len_codes]
  show (a.cps ++ b.cps).toList.length = _
  rw [Array.toList_append, List.length_append]
theorem strOf_len {i : Int} {k : Nat} (hk : 0 < k) (h : i.natAbs < 10 ^ k) : (strOf i).length ≤ k + 1 := by
  by_cases h0 : 0 ≤ i
  · obtain ⟨m, rfl⟩ := Int.eq_ofNat_of_zero_le h0
    have e := strOf_nat m
    have hl := TL.numL_len (n := m) (k := k) hk (by simpa using h)
    rw [← len_codes, e]; omega
  · obtain ⟨m, rfl⟩ : ∃ m : Nat, i = -(m : Int) := ⟨i.natAbs, by omega⟩
    have e := strOf_neg (m := m) (by omega)
    have hl := TL.numL_len (n := m) (k := k) hk (by simpa using h)
    rw [← len_codes, e, List.length_cons]; omega
theorem log_big {n : Nat} (h : n.log2 < 1920) : n < 10 ^ 1000 := by
  by_cases h0 : n = 0
  · rw [h0]; exact Nat.pow_pos (by decide)
  · rw [Nat.log2_lt h0] at h
    refine Nat.lt_of_lt_of_le h ?_
    have e : 2 ^ 1920 = (2 ^ 96) ^ 20 := by rw [← Nat.pow_mul]
    have e' : 10 ^ 1000 = (10 ^ 50) ^ 20 := by rw [← Nat.pow_mul]
    rw [e, e']
    exact Nat.pow_le_pow_left (by decide) 20
theorem fit_shown {x : V} (h : fitF x = true) : (flatD x).shown.length ≤ 1001 := by
  cases x with
  | int i => exact strOf_len (by decide) (log_big (of_decide_eq_true h))
  | bl b => show (if b then Str.ofString "True" else "False").length ≤ _; cases b <;> decide
  | non => show (Str.ofString "None").length ≤ _; decide
  | _ => cases h
end L3
end
section
namespace L3
open PySem PySem.Spec PyProof.Rows L2
/-- what the written part says of the class C, its __init__ at f with the code object cda and the cell cc -/
structure SupF (P : Program) (K : PySem.W.Frag) (mg : Str → Option Value) (C f cda cc : Addr) (scope : Scope) : Prop where
  oex : OexC K C
  cell : ∃ cl cld csl, K.lookup cc = some ⟨cl, cld, .cell (some (.ref C)), csl⟩
  code : ∃ ccl cdd vs ccs file tf, K.lookup cda = some ⟨ccl, cdd, .fields vs, ccs⟩ ∧ vs[2]? = some (.str file tf) ∧ ((P.main.file : Str) == file) = true
  mro : PySem.W.mroIn K C (.ref C) = some true
  noS : mg "super" = none
  top : (P.main.scope.names.lookup ("super" : Str)).isSome = false
  opq : PySem.W.nsIn K cStatics "thirdparty.any" = some none
  sup : PySem.W.ks_superIn K C C "__init__" = some (some (.builtin "ValueError.__init__"))
  sub : PySem.W.subIn K (.ref C) (.type "ValueError") = some true
  sSup : scope.names.lookup ("super" : Str) = some .globalImplicit
  sCls : scope.names.lookup ("__class__" : Str) = some .free
def supF (qual : Str) (params : Arguments) (body : List Stmt) (scope : Scope) (cc cda : Addr) : NdefX.NF := ⟨"__init__", qual, params, body, scope, [("__class__", cc)], cda⟩
theorem okSup {P : Program} {w : World} {K : PySem.W.Frag} {mg : Str → Option Value} {base : Heap} {CX : CXT} {k : Nat} {C f cda cc : Addr} {qual msg : Str} {params : Arguments} {rest : List Stmt} {scope : Scope} {kV doc pm ct oc : Value} {an od : Option Addr} {osl : Array (Option Value)} {N ps : List Str} {sp : Sp}
    {p0 p1 p2 p3 p4 p5 : Pos} {j : Nat} {ar : Arg} {body : List Stmt}
    (hbd : body = .Expr (.Call (.Attribute (.Call (.Name "super" p0) [] [] p1) "__init__" p2) [.Constant (.str msg) j p3] [] p4) p5 :: rest)
    (lk : K.lookup f = some ⟨oc, od, .func (PySem.W.fnX "__init__" qual params body scope [("__class__", cc)] .none kV doc pm an (.ref cda) ct), osl⟩) (hcd : PySem.W.codeIn K (.ref cda) qual = true)
    (T : SupF P K mg C f cda cc scope) (S : NdefX.NScope N ps ["__class__"] scope) (hp : (params.posonlyargs ++ params.args).head? = some ar) (hps : ps.head? = some ar.arg) (hN0 : N[0]? = some ar.arg) (hna : scope.names.lookup ar.arg = some .local)
    (hev : ∀ env : Env, env.scope = scope → ∃ pl, eval (.Call (.Attribute (.Call (.Name "super" p0) [] [] p1) "__init__" p2) [.Constant (.str msg) j p3] [] p4) env = (do
      let ov ← attributeBase (.Call (.Name "super" p0) [] [] p1) "__init__" env (eval (.Call (.Name "super" p0) [] [] p1) env)
      standAt p2.atName
      let (f, first) ← holding [ov] (getMethod ov "__init__" pl)
      callWith p4 f first (backTo p4 (starEach [.Constant (.str msg) j p3] env)) []))
    (len : ∀ vs H Q E, sp vs H Q E → vs.length = ps.length)
    (run : ∀ (A : Around) (outer : List Env) (s : Shared) (H : Hp) (vs : List V) (Q : VK) (E : XK), Room k (A.deeper (NdefX.envF (supF qual params body scope cc cda) f s.heap.objs.size)) → sp vs H Q E →
      ∃ a ws, vs = .ref a :: ws ∧ H a = some (exo a C none) ∧ ∃ t, PSs (NdefX.ncx CX P w K mg base N (supF qual params body scope cc cda) f A outer s H E) rest t ∧ t { nx := fun _ H' => Q .non H', rt := Q } (NdefX.startF N vs [some (.ref C)]) H) :
    FnOk P w K mg base CX (k + 1) f (PySem.W.fnX "__init__" qual params body scope [("__class__", cc)] .none kV doc pm an (.ref cda) ct) ps sp := by
  refine ⟨len, fun A outer s H args us vs Q E hr e0 hb r h => ?_⟩
  have KX : K.In s.heap := e0.mod.kin.keeps fun b o e => (e0.bs b o e).1
  have lim : s.heap.NoLimit := e0.mod.nolimit.keeps fun b o e => (e0.bs b o e).1
  obtain ⟨cl, cld, csl, hcell⟩ := T.cell
  have hl := len _ _ _ _ h
  have cells : NdefX.CellsAt [("__class__", cc)] ["__class__"] [some (.ref C)] s.heap H := by
    have hkb := e0.mod.kin _ _ hcell
    have look : ∀ {y c}, List.lookup y [(("__class__" : Str), cc)] = some c → y = "__class__" ∧ c = cc := fun {y c} e => by
      rw [List.lookup_cons] at e
      by_cases hy : y == ("__class__" : Str)
      · rw [hy] at e; exact ⟨beq_iff_eq.mp hy, (Option.some.inj e).symm⟩
      · rw [Bool.eq_false_iff.mpr hy] at e; cases e
    refine ⟨rfl, fun y c e => ?_, fun x y c e1 e2 => (look e1).1.trans (look e2).1.symm, fun i y hy => ?_⟩
    · rw [(look e).2]
      exact ⟨(e0.bs _ _ hkb).2, _, _, KX _ _ hcell, rfl⟩
    · match i, hy with
      | 0, hy =>
        cases hy
        refine ⟨cc, rfl, fun v hv => ?_⟩
        cases hv
        exact ⟨_, rfl, _, KX _ _ hcell, rfl⟩
  refine PySem.ks_codeAny_call_defAt (fd := PySem.W.fnX "__init__" qual params body scope [("__class__", cc)] .none kV doc pm an (.ref cda) ct) (body := body) hr.depth (KX _ _ lk) rfl lim (PySem.W.codeRec_of KX hcd) rfl hb S.nocell (fun ⟨n, _⟩ hy => S.par n (List.of_mem_zip hy).1) (fun h₁ hns kp => ?_) S.co S.gen S.kind
  obtain ⟨a, ws, hvs, ha, t, ht, hq⟩ := run A outer s H vs Q E (hr.deeper _) h
  have I : Inv (NdefX.ncx CX P w K mg base N (supF qual params body scope cc cda) f A outer s H E) [] (NdefX.startF N vs [some (.ref C)]) H { s with heap := h₁, toks := s.toks + (ps.zip us).length } := NdefX.inv_startN S hr.hd e0 hl r cells hns kp
  subst hbd
  subst hvs
  obtain ⟨nm, q, Nn, bs, bm, sn, sub, ab, col, dd, k0, k1, k2, k3, k5, hC, hbm⟩ := T.oex.cls
  obtain ⟨ccl, cdd, vs2, ccs, file, tf, hcode, hv2, hfile⟩ := T.code
  obtain ⟨t1, hox⟩ := exo_at I.hok ha
  have K1 : K.In h₁ := I.kIn
  obtain ⟨u0, us', rfl, r0, r'⟩ : ∃ u0 us', us = u0 :: us' ∧ RelV (.ref a) u0 ∧ Vals ws us' := by
    cases r with
    | cons r0 r' => exact ⟨_, _, rfl, r0, r'⟩
  obtain rfl : u0 = Value.ref a := r0
  have hps0 : ps[0]? = some ar.arg := by rw [← List.head?_eq_getElem?]; exact hps
  have hv : (ps.zip (Value.ref a :: us')).reverse.lookup ar.arg = some (.ref a) := NdefX.zip_look (i := 0) (by
      have e := S.pre
      have nd := S.nd.sublist (List.take_sublist (ps.length + 1) N)
      rw [show (["__class__"] : List Str).length = 1 from rfl] at e
      rw [e] at nd
      exact (List.nodup_append.mp nd).1) hps0 rfl
  obtain ⟨pl, he⟩ := hev (NdefX.envF (supF qual params [] scope cc cda) f s.heap.objs.size) rfl
  refine PySem.ks_wpAt_execs_cons (PySem.ks_wpAt_Expr_any (PySem.ks_wpAt_MethodCall (pl := pl) ?_ he) (hi := I.quiet))
  refine PySem.ks_wpAt_super_base (f := f) (cc := cda) T.sSup T.sCls (by decide) rfl (K1 _ _ lk) rfl hp rfl (K1 _ _ hcode) rfl hv2 hfile T.top ?_
  have hD : h₁.get? C = some _ := K1 _ _ hC
  obtain ⟨mb, b1, b2⟩ := I.mod.blt
  refine PySem.W.ks_loadName_global S.kind T.sSup (Calls.loadGlobal_builtin (I.mod.glob.keeps I.bk) T.noS (b1.keeps I.bk) ((b2 _ (by decide)).trans (by rfl)) ⟨rfl, ?_⟩)
  refine wpAny_loadName_free S.kind T.sCls rfl ⟨_, K1 _ _ hcell, rfl⟩ ?_
  refine wpAny_loadName_local S.kind hna hns hv ?_
  refine PySem.ks_wpAny_isType_cls hD rfl ⟨rfl, ?_⟩
  refine PySem.ks_wpAny_call_super hD rfl hox rfl (fun c e => nomatch e) (PySem.W.looks_mroIn K1 T.mro) (fun h2 e2 kp2 => ?_)
  have I2 := I.kept (t' := s.toks + (ps.zip (Value.ref a :: us')).length) kp2
  have K2 : K.In h2 := I2.kIn
  have hcl : PySem.W.clsIn K C = some { name := nm, bases := bs, mro := .ref C :: bm, ns := Nn, qualname := q, hasDict := true, slotNames := sn, subclasses := sub, abstract := ab, collection := col, hasDel := false } := by unfold PySem.W.clsIn; rw [hC] <;> rfl
  have hsup := T.sup
  unfold PySem.W.ks_superIn at hsup
  rw [hcl] at hsup
  obtain ⟨t2, ho2⟩ := exo_at I2.hok ha
  have IA : PySem.W.InstAt h2 a _ C none := ⟨ho2, rfl, rfl, trivial⟩
  refine PySem.W.kxs_getMethod PySem.W.kxs_ValueError e2 (PySem.W.looks_opaque K2 T.opq) (l₀ := .ref C :: bm) (fun A Q E s k q => wpAny_bind ((PySem.W.looks_clsIn K2 hcl) A _ E s k (wpAny_pure q))) rfl K2 hsup (IA.type.andThen (PySem.W.looks_subIn K2 T.sub)) (PySem.W.ks_ne K2 IA hcl) (by decide) ?_
  have kp3 : ∀ b o, h2.get? b = some o → (h2.push (PySem.W.kxs_mw "ValueError.__init__" a)).get? b = some o := fun b o e => Heap.get?_push_of_some _ e
  have I3 := I2.kept (t' := s.toks + (ps.zip (Value.ref a :: us')).length + 1) kp3
  have hu : (h2.push (PySem.W.kxs_mw "ValueError.__init__" a)).get? h2.objs.size = some (PySem.W.kxs_mw "ValueError.__init__" a) := Heap.get?_push_at rfl rfl
  generalize h2.push (PySem.W.kxs_mw "ValueError.__init__" a) = h3 at I3 hu ⊢
  generalize h2.objs.size = u at hu ⊢
  refine PySem.W.kxs_callWith (i := "ValueError.__init__") (x := a) rfl (Calls.evalArgs_plain (Calls.spliced_cons (Calls.Constant_str (k := j) (pos := p3) (Calls.spliced_nil ⟨hu, ?_⟩))))
  have I4 := I3.tok (s.toks + (ps.zip (Value.ref a :: us')).length + 1 + 1)
  have K4 : K.In h3 := I4.kIn
  obtain ⟨t4, ho4⟩ := exo_at I4.hok ha
  refine wpAny_call (codeAny_of_tree ?_)
  show wpAny _ _ (callAny (.ref u) ⟨_, []⟩) _ _ _
  simp only [callAny]
  refine wpAny_bind (wpAny_load hu ?_)
  simp only [PySem.W.kxs_mw, show (Value.type "method-wrapper" == Value.type "method" || Value.type "method-wrapper" == Value.type "builtin_function_or_method" || Value.type "method-wrapper" == Value.type "method-wrapper") = true by decide, if_true]
  refine PySem.W.KFB.if_so (by decide) ?_
  refine wpAny_bind (PySem.W.check_bound_init F.excBase_ValueError.toExcCallFacts (K4 _ _ hC) ho4 rfl ?_)
  refine wpAny_bind (wpAny_pure (wpAny_pure ?_))
  refine ⟨plainId_quiet F.excBase_ValueError.init.plain _, codeAny_builtin F.excBase_ValueError.initEntry ?_⟩
  refine PySem.W.exc_init_tree (cls := .ref C) (t0 := t4) (dv := none) (c2 := .none) (c3 := .none) (b4 := .bool false) ho4 (by show 1 ≤ sizeLine; rw [sizeLine_eq]; decide) (fun h5 kp5 hx5 _ => ?_)
  have J := I4.write (t' := s.toks + (ps.zip (Value.ref a :: us')).length + 1 + 1) (x := a) (e := a) (o := exo a C none) (by rw [ha]; exact True.intro) (.inl rfl) kp5 ⟨_, hx5⟩ (exo_ok hx5)
  have eu : upd H a (exo a C none) = H := by
    funext b
    by_cases hb : b = a
    · rw [hb, upd_same, ha]
    · rw [upd_ne hb]
  rw [eu] at J
  refine PySem.wpAt_of_wpAny (wpAny_mono (ht.run [] _ _ H _ J hq) (fun fl s' hs => ?_) fun e s' hs => hs)
  cases fl with
  | ret u =>
    obtain ⟨v, σ', H', J', rv, q⟩ := hs
    exact ⟨v, H', J'.os, J'.bare, J'.base, J'.hok, rv, q⟩
  | next =>
    obtain ⟨σ', H', J', q⟩ := hs
    exact ⟨.non, H', J'.os, J'.bare, J'.base, J'.hok, rfl, q⟩
  | brk =>
    obtain ⟨_, _, _, q⟩ := hs
    exact False.elim q
  | cont =>
    obtain ⟨_, _, _, q⟩ := hs
    exact False.elim q
end L3
namespace L3
open PySem PySem.Spec PyProof.Rows L2
/-- one field, two fields, none -/
def spErr1 (C : Addr) (f : Str) : Sp := fun vs H Q _ => ∃ a v, vs = [.ref a, v] ∧ H a = some (exo a C none) ∧ ∀ dx, H dx = none → dx ≠ a → Q .non (upd (upd H dx (exd dx [(f, v)])) a (exo a C (some dx)))
def spErr2 (C : Addr) (f g : Str) : Sp := fun vs H Q _ => ∃ a v y, vs = [.ref a, v, y] ∧ H a = some (exo a C none) ∧ ∀ dx, H dx = none → dx ≠ a → Q .non (upd (upd (upd H dx (exd dx [(f, v)])) a (exo a C (some dx))) dx (exd dx [(g, y), (f, v)]))
abbrev stSup (msg : Str) (j : Nat) (p0 p1 p2 p3 p4 p5 : Pos) : Stmt := .Expr (.Call (.Attribute (.Call (.Name "super" p0) [] [] p1) "__init__" p2) [.Constant (.str msg) j p3] [] p4) p5
abbrev stFld (f x : Str) (q1 q2 q3 q4 : Pos) : Stmt := .Assign [.Attribute (.Name "self" q1) f q2] (.Name x q3) q4
section
variable {P : Program} {w : World} {K : PySem.W.Frag} {mg : Str → Option Value} {base : Heap} {CX : CXT} {C f cda cc : Addr} {qual msg x y g1 g2 : Str} {params : Arguments} {scope : Scope} {kV doc pm ct oc : Value} {an od : Option Addr} {osl : Array (Option Value)}
  {p0 p1 p2 p3 p4 p5 q1 q2 q3 q4 q5 q6 q7 q8 : Pos} {j : Nat} {ar : Arg} {body : List Stmt}
theorem okErr1 (hbd : body = [stSup msg j p0 p1 p2 p3 p4 p5, stFld g1 x q1 q2 q3 q4])
    (lk : K.lookup f = some ⟨oc, od, .func (PySem.W.fnX "__init__" qual params body scope [("__class__", cc)] .none kV doc pm an (.ref cda) ct), osl⟩) (hcd : PySem.W.codeIn K (.ref cda) qual = true)
    (T : SupF P K mg C f cda cc scope) (S : NdefX.NScope ["self", x, "__class__"] ["self", x] ["__class__"] scope) (hp : (params.posonlyargs ++ params.args).head? = some ar) (har : ar.arg = "self")
    (hev : ∀ env : Env, env.scope = scope → ∃ pl, eval (.Call (.Attribute (.Call (.Name "super" p0) [] [] p1) "__init__" p2) [.Constant (.str msg) j p3] [] p4) env = (do
      let ov ← attributeBase (.Call (.Name "super" p0) [] [] p1) "__init__" env (eval (.Call (.Name "super" p0) [] [] p1) env)
      standAt p2.atName
      let (f, first) ← holding [ov] (getMethod ov "__init__" pl)
      callWith p4 f first (backTo p4 (starEach [.Constant (.str msg) j p3] env)) []))
    (hx : (x == ("__debug__" : Str)) = false) (hx2 : (x == ("__classdict__" : Str)) = false) (n1 : PySem.W.findIn K (.ref C) g1 = some none) (hs : ∀ env : Env, env.scope = scope → swapsWith (.Name x q3) (some (.Attribute (.Name "self" q1) g1 q2)) q4.line env = pure false) :
    FnOk P w K mg base CX 1 f (PySem.W.fnX "__init__" qual params body scope [("__class__", cc)] .none kV doc pm an (.ref cda) ct) ["self", x] (spErr1 C g1) := by
  refine okSup hbd lk hcd T S hp (by rw [har]; rfl) (by rw [har]; rfl) (by rw [har]; exact S.par _ (by simp)) hev (fun vs H Q E h => ?_) (fun A outer s H vs Q E hr h => ?_)
  · obtain ⟨a, v, rfl, _⟩ := h; rfl
  · obtain ⟨a, v, rfl, ha, k⟩ := h
    refine ⟨a, _, rfl, ha, _, pss_one (ps_ost (pe_var (i := 0) rfl (.inl (S.par _ (by simp)))) (pe_var (i := 1) rfl (.inl (S.par _ (by simp))) hx hx2) (hs _ rfl)), ?_⟩
    refine ⟨v, rfl, .ref a, rfl, a, C, rfl, T.oex, n1, .inl ⟨ha, fun dx h1 h2 => ?_⟩⟩
    exact k dx h1 h2
theorem okErr2 (hbd : body = [stSup msg j p0 p1 p2 p3 p4 p5, stFld g1 x q1 q2 q3 q4, stFld g2 y q5 q6 q7 q8])
    (lk : K.lookup f = some ⟨oc, od, .func (PySem.W.fnX "__init__" qual params body scope [("__class__", cc)] .none kV doc pm an (.ref cda) ct), osl⟩) (hcd : PySem.W.codeIn K (.ref cda) qual = true)
    (T : SupF P K mg C f cda cc scope) (S : NdefX.NScope ["self", x, y, "__class__"] ["self", x, y] ["__class__"] scope) (hp : (params.posonlyargs ++ params.args).head? = some ar) (har : ar.arg = "self")
    (hev : ∀ env : Env, env.scope = scope → ∃ pl, eval (.Call (.Attribute (.Call (.Name "super" p0) [] [] p1) "__init__" p2) [.Constant (.str msg) j p3] [] p4) env = (do
      let ov ← attributeBase (.Call (.Name "super" p0) [] [] p1) "__init__" env (eval (.Call (.Name "super" p0) [] [] p1) env)
      standAt p2.atName
      let (f, first) ← holding [ov] (getMethod ov "__init__" pl)
      callWith p4 f first (backTo p4 (starEach [.Constant (.str msg) j p3] env)) []))
    (hx : (x == ("__debug__" : Str)) = false) (hx2 : (x == ("__classdict__" : Str)) = false) (hy : (y == ("__debug__" : Str)) = false) (hy2 : (y == ("__classdict__" : Str)) = false)
    (n1 : PySem.W.findIn K (.ref C) g1 = some none) (n2 : PySem.W.findIn K (.ref C) g2 = some none)
    (hs : ∀ env : Env, env.scope = scope → swapsWith (.Name x q3) (some (.Attribute (.Name "self" q1) g1 q2)) q4.line env = pure false) (hs2 : ∀ env : Env, env.scope = scope → swapsWith (.Name y q7) (some (.Attribute (.Name "self" q5) g2 q6)) q8.line env = pure false) :
    FnOk P w K mg base CX 1 f (PySem.W.fnX "__init__" qual params body scope [("__class__", cc)] .none kV doc pm an (.ref cda) ct) ["self", x, y] (spErr2 C g1 g2) := by
  refine okSup hbd lk hcd T S hp (by rw [har]; rfl) (by rw [har]; rfl) (by rw [har]; exact S.par _ (by simp)) hev (fun vs H Q E h => ?_) (fun A outer s H vs Q E hr h => ?_)
  · obtain ⟨a, v, y, rfl, _⟩ := h; rfl
  · obtain ⟨a, v, y', rfl, ha, k⟩ := h
    refine ⟨a, _, rfl, ha, _, pss_cons (ps_ost (pe_var (i := 0) rfl (.inl (S.par _ (by simp)))) (pe_var (i := 1) rfl (.inl (S.par _ (by simp))) hx hx2) (hs _ rfl))
      (pss_one (ps_ost (pe_var (i := 0) rfl (.inl (S.par _ (by simp)))) (pe_var (i := 2) rfl (.inl (S.par _ (by simp))) hy hy2) (hs2 _ rfl))), ?_⟩
    refine ⟨v, rfl, .ref a, rfl, a, C, rfl, T.oex, n1, .inl ⟨ha, fun dx h1 h2 => ?_⟩⟩
    refine ⟨y', rfl, .ref a, rfl, a, C, rfl, T.oex, n2, .inr ⟨dx, [(g1, v)], upd_same, ?_, (show 1 ≤ 900 by decide), ?_⟩⟩
    · rw [upd_ne h2]; exact upd_same
    · exact k dx h1 h2
end
end L3
end
section
namespace L3
open PySem PySem.Spec PyProof.Rows L2
/-- at a: an error of the class cls, its dict at d -/
def ExV (a : Addr) (cls : Value) (d : Option Addr) : HO := .ext fun h => ∃ oe, h.get? a = some oe ∧ Zc cls d oe ∧ ∃ vs, oe.data = .fields vs
theorem exV_ok {P : Program} {w : World} {H : Hp} {h : Heap} {a : Addr} {cls : Value} {d : Option Addr} {oe : Obj} (e : h.get? a = some oe) (z : Zc cls d oe) (f : ∃ vs, oe.data = .fields vs) : ObjOk P w H h a (ExV a cls d) :=
  ⟨⟨oe, e, z, f⟩, ⟨_, e⟩, fun _ _ ⟨o, q, z, f⟩ k => ⟨o, k _ q, z, f⟩⟩
section
variable {X : Cx} {pins : List (Addr × Obj)} {σ : L2.St} {H : Hp} {s : Shared}
/-- an object that was not there at the entry may be told from now on -/
theorem Inv.track {a : Addr} {o : HO} (I : Inv X pins σ H s) (na : H a = none) (n0 : X.s_0.heap.get? a = none) (nL : a ≠ X.env.locals) (nC : ∀ x c, X.env.cells.lookup x = some c → c ≠ a) (nP : ∀ p ∈ X.pn ++ pins, p.1 ≠ a) (new : ObjOk X.prog X.w (upd H a o) s.heap a o) :
    Inv X pins σ (upd H a o) s := by
  have ne0 : ∀ b u, X.s_0.heap.get? b = some u → b ≠ a := fun b u e z => by rw [z, n0] at e; cases e
  refine ⟨I.ok, I.os, I.bare, ⟨I.base.keep, I.base.slot, fun b u e n hx => ?_, I.base.there, fun b xs e => ?_, fun b u v e => ?_, fun b ps e => ?_⟩, I.loc, I.cell, ?_, fun x c e => ?_, fun p hp => ?_, I.hok.laidN (fun _ _ q => q) na new, I.len⟩
  · rw [upd_ne (ne0 b u e)]; exact I.base.free b u e n hx
  · have q := I.base.tups b xs e
    rw [upd_ne (ne_of_none q na)]; exact q
  · have q := I.base.frzs b u v e
    rw [upd_ne (ne_of_none q na)]; exact q
  · obtain ⟨m, q⟩ := I.base.tbls b ps e
    exact ⟨m, by rw [upd_ne (ne_of_none q na)]; exact q⟩
  · rw [upd_ne (Ne.symm nL)]; exact I.free
  · rw [upd_ne (nC x c e)]; exact I.freeC x c e
  · obtain ⟨h1, h2, h3, h4, h5⟩ := I.pin p hp
    exact ⟨h1, by rw [upd_ne (nP p hp)]; exact h2, h3, h4, h5⟩
end
/-- what 'except x as n: m = n' wishes: the error stays in slot m, told behind the suite -/
def wNote (K : PySem.W.Frag) (n : Nat) (c : Value) (i m : Nat) (Wout : WX) (D : Ends) : WX := fun cls d σ H =>
  ∃ b, PySem.W.exmOne K cls c = some b ∧ (b = true → σ.length = n → ∀ a, H a = none → D.nx (((σ.set i (some (.ref a))).set m (some (.ref a))).set i none) (upd H a (ExV a cls d))) ∧ (b = false → Wout cls d σ H)
section
variable {X : Cx} {x n mN : Str} {c : Value} {i m : Nat} {body : List Stmt} {np pos pos' p1 p2 p3 : Pos} {tb : WX → TS} {Wout : WX}
theorem ps_try_note (hs : X.stack = X.env :: X.outer) (hf : X.env.frame = some X.env.locals) (hex : X.ex = []) (hN : X.N.Nodup) (hi : X.N[i]? = some n) (hln : X.env.kindOf n = some .local) (hm : X.N[m]? = some mN) (hlm : X.env.kindOf mN = some .local) (hc : Names X x c) (tk : Takes X Wout)
    (hsw : swapsWith (.Name n p2) (some (.Name mN p1)) p3.line X.env = pure false) (hnd : (n == ("__debug__" : Str)) = false) (hnc : (n == ("__classdict__" : Str)) = false)
    (hb : ∀ (W : WX) (pn : List (Addr × Obj)) (xe : Value → Shared → Prop), Takes (X.tr pn xe) W → PassesOwn (model X.prog X.w) X.A X.env xe → PSs (X.tr pn xe) body (tb W)) :
    PS X (.Try body [.ExceptHandler (some (.Name x np)) (some n) [.Assign [.Name mN p1] (.Name n p2) p3] pos'] [] [] pos) (fun D σ H => tb (wNote X.K X.N.length c i m Wout D) D σ H) := by
  refine ⟨fun pins s σ H D I h => ?_⟩
  have ok := I.ok
  have frE : X.A.frames = some (X.env :: X.outer) := by rw [ok.frames, hs]
  refine wpAny_Try_except ?_
  refine wpAny_mono ((hb (wNote X.K X.N.length c i m Wout D) (X.pn ++ pins) (fun e s1 => wpAny (model X.prog X.w) X.A (noteFrame e X.env) (fun _ s2 => wpAny (model X.prog X.w) X.A (setFlight e none) (fun _ s3 =>
    wpAny (model X.prog X.w) X.A (handleBy e X.env [.ExceptHandler (some (.Name x np)) (some n) [.Assign [.Name mN p1] (.Name n p2) p3] pos']) (SP X pins D) X.xe s3) X.xe s2) X.xe s1) (fun u s' xx => ?_) PassesOwn.looking).run [] s σ H D (I.toTry _) h) (fun f s1 hsp => ?_) (fun e s1 he => he)
  · obtain ⟨a, B, sI, pins', σ', H', cls, d, rfl, J', nb, up, sky, na, os, ag, b, hb1, hyes, hno⟩ := xx
    have J : Inv X pins σ' H' sI := J'.ofTry ok
    have skyE : Sky B (X.env :: X.outer) a (Zc cls d) X.env.locals s'.heap := by rw [← hs]; exact sky
    show wpAny (model X.prog X.w) X.A (noteFrame (.ref a) X.env) _ _ _
    refine Sky.land Zc.steady frE hf skyE fun h3 fl3 up3 => ?_
    have J3 : Inv X pins σ' H' { s' with heap := h3 } := J.landed nb fl3.1 (up.trans up3) os ag
    obtain ⟨oe3, vs3, he3, hz3, hd3⟩ := fl3.there
    have far : ∀ {h : Heap} {o : Obj} {vs : Array Value}, h.FunFrames B (X.env :: X.outer) → h.get? a = some o → o.data = .fields vs → a ∉ frs (X.env :: X.outer) := fun {h o vs} ff e dd hm => by
      obtain ⟨_, o', e', hnf⟩ := ff.mem hm
      rw [e] at e'; cases e'
      exact hnf _ dd
    have nfr := far fl3.2.2.1 he3 hd3
    have nL : a ≠ X.env.locals := fun z => nfr (List.mem_filterMap.mpr ⟨X.env, List.mem_cons_self, by rw [hf, z]⟩)
    have nF : a ∉ X.fs := fun hm => by
      obtain ⟨e, he, q⟩ := List.mem_filterMap.mp hm
      exact nfr (List.mem_filterMap.mpr ⟨e, List.mem_cons_of_mem _ he, q⟩)
    have nI : sI.heap.get? a = none := by
      cases e : sI.heap.get? a with
      | none => rfl
      | some o =>
        have q := nb a o e (by rw [hs]; exact nfr)
        rw [fl3.2.1] at q; cases q
    have n0 : X.s_0.heap.get? a = none := by
      cases e : X.s_0.heap.get? a with
      | none => rfl
      | some o =>
        obtain ⟨o', q⟩ := J.base.there a o e (by rw [hex]; exact fun z => nomatch z)
        rw [nI] at q; cases q
    have nC : ∀ y c, X.env.cells.lookup y = some c → c ≠ a := fun y c e z => by
      obtain ⟨v, o, q, _⟩ := J.cell y c e
      rw [z, nI] at q; cases q
    have nP : ∀ p ∈ X.pn ++ pins, p.1 ≠ a := fun p hp z => by
      have q := (J.pin p hp).1
      rw [z, nI] at q; cases q
    have S3 := J3.suite he3 hd3 na nL nF
    refine wpAny_handleBy_cons (codeAny_handlers_test ?_) (by intro q; cases q)
    have LT : PySem.W.Looks (model X.prog X.w) h3 (typeOf (.ref a)) cls := fun A Q E s k q => wpAny_typeOf_ref (k _ _ he3) (by rw [hz3.1]; exact q)
    have LM := PySem.W.exm_one (M := model X.prog X.w) (J3.kIn) LT hb1
    have test : ∀ {Q : Value → Shared → Prop} {E : Value → Shared → Prop}, Q c { s' with heap := h3 } → wpAny (model X.prog X.w) (X.A.mark (some (.ref a))) (eval (.Name x np) X.env) Q E { s' with heap := h3 } := fun {Q E} q => by
      obtain ⟨hg, hdbg, hm | ⟨hm, hv, hnn⟩⟩ := hc
      · exact ld_glob (X := X.suite a ((a, oe3) :: (X.pn ++ pins))) S3 hg hm q hdbg
      · exact ld_blt (X := X.suite a ((a, oe3) :: (X.pn ++ pins))) S3 hg hm hv q hnn hdbg
    refine test (LM.here ?_)
    cases b with
    | true =>
      refine codeAny_handlers_suite_as ?_
      refine HandSPX.lands_againZ fl3 fun h4 fl4 up4 => ?_
      have J4 : Inv X pins σ' H' { s' with heap := h4 } := J.landed nb fl4.1 ((up.trans up3).trans up4) os ag
      obtain ⟨oe4, vs4, he4, hz4, hd4⟩ := fl4.there
      have S4 := J4.suite he4 hd4 na nL nF
      refine store_ok (X := X.suite a ((a, oe4) :: (X.pn ++ pins))) (v := .ref a) S4 hN hi (.inl hln) rfl (fun s5 S5 => ?_) (.inr hln)
      have suiteP : PSs (X.suite a ((a, oe4) :: (X.pn ++ pins))) [.Assign [.Name mN p1] (.Name n p2) p3] (tAsg (tVar i) (gName m)) := pss_one (ps_set (i := m) hN hm (.inl hlm) (pe_var (i := i) hi (.inl hln) hnd hnc) hsw (.inr hlm))
      have hlt : i < σ'.length := by
        rw [J.len]
        exact (List.getElem?_eq_some_iff.mp hi).1
      refine wpAny_mono (suiteP.run [] s5 _ H' { nx := fun σ6 H6 => σ6 = (σ'.set i (some (.ref a))).set m (some (.ref a)) ∧ H6 = H', rt := fun _ _ => False, bk := fun _ _ => False, ct := fun _ _ => False } S5 ⟨.ref a, List.getElem?_set_self hlt, rfl, rfl⟩) (fun f s6 hsp => ?_) (fun _ _ z => False.elim z)
      cases f with
      | next =>
        obtain ⟨σ6, H6, S6, e6, e7⟩ := hsp
        subst e6
        subst e7
        have pin6 := S6.pin (a, oe4) (List.mem_append_left _ List.mem_cons_self)
        have U6 := S6.unsuite ok
        have J6 : Inv X ((a, oe4) :: pins) _ H6 s6 := U6.pins_of fun p hp => (List.mem_cons.mp hp).elim (fun z => by rw [z]; exact pin6) fun z => U6.pin p (List.mem_append_right _ z)
        refine gone_ok J6 hN hi hln fun s7 J7 => ?_
        have a7 := (J7.pin (a, oe4) (List.mem_append_right _ List.mem_cons_self)).1
        have J8 : Inv X pins _ H6 s7 := J7.pins_of fun p hp => J7.pin p (List.mem_append_right _ (List.mem_cons_of_mem _ hp))
        exact ⟨_, _, Inv.track J8 na n0 nL nC nP (exV_ok a7 hz4 ⟨_, hd4⟩), hyes rfl J.len a na⟩
      | brk =>
        obtain ⟨_, _, _, z⟩ := hsp
        exact False.elim z
      | cont =>
        obtain ⟨_, _, _, z⟩ := hsp
        exact False.elim z
      | ret u =>
        obtain ⟨_, _, _, _, _, z⟩ := hsp
        exact False.elim z
    | false =>
      show wpAny _ X.A (handleBy (.ref a) X.env []) _ _ _
      refine wpAny_handleBy_nil ?_
      obtain ⟨k1, k2, k3, oe, vs, Tt, oT, tq, he, hz, hd, h1, hr⟩ := id fl3
      unfold PySem.passOn
      refine wpAny_bind (wpAny_field he hd h1 ?_)
      rw [if_neg (show ¬ ((Value.ref Tt == Value.none) = true) from by simp)]
      have fin : wpAny (model X.prog X.w) X.A (setFlight (.ref a) X.env.frame) (fun _ s4 => wpAny (model X.prog X.w) X.A (throw (.ref a) : Sem Flow) (SP X pins D) X.xe s4) X.xe { s' with heap := h3 } := by
        rw [hf]
        refine HandSPX.setFlight_upZ fl3 fun h4 hh4 up4 => wpAny_throw (tk _ _ ?_)
        exact ⟨a, B, sI, pins, σ', H', cls, d, rfl, J, nb, (up.trans up3).trans up4, .inr (.inr (by rw [hs]; exact hh4)), na, os, ag, hno rfl⟩
      first
        | exact wpAny_bind (wpAny_pure (wpAny_bind fin))
        | exact wpAny_bind fin
  · cases f with
    | next =>
      obtain ⟨σ', H', J', q⟩ := hsp
      exact wpAny_execs_nil ⟨σ', H', J'.ofTry ok, q⟩
    | brk =>
      obtain ⟨σ', H', J', q⟩ := hsp
      exact ⟨σ', H', J'.ofTry ok, q⟩
    | cont =>
      obtain ⟨σ', H', J', q⟩ := hsp
      exact ⟨σ', H', J'.ofTry ok, q⟩
    | ret u =>
      obtain ⟨v, σ', H', J', r, q⟩ := hsp
      exact ⟨v, σ', H', J'.ofTry ok, r, q⟩
end
end L3
namespace L3
open PySem PySem.Spec PySem.Calls PyProof.Rows PySem.W
section
variable {prog : Program} {w : World} {A : Around} {E : Value → Shared → Prop} {s : Shared} {K : Frag} {x D : Addr} {ox : Obj} {od : Option Obj}
/-- the class of an error that has its dict -/
theorem cls_exc {Q : Option Value → Shared → Prop} (C : L2.ExcC K D) (X : K.In s.heap) (I : InstAt s.heap x ox D od) (hf : findObj K D od "__class__" = some (.bind (.builtin "getset_descriptor.__get__") (.builtin "object.__class__")))
    (h : Q (some (.ref D)) { s with toks := s.toks + 1 }) : wpAny (model prog w) A (getAttr? (.ref x) "__class__") Q E s := by
  obtain ⟨hp, g, d, t, os⟩ := s
  have L0 := I.type (M := model prog w)
  have L1 := looks_findIn (M := model prog w) X C.hg
  have L2 := looks_findIn (M := model prog w) X C.hk
  have L4 := looks_find (M := model prog w) X I hf
  have sub : Looks (model prog w) hp (isInstance (.ref x) (.type "BaseException")) true := L0.andThen (looks_subIn X C.hs)
  have z0 : (false && onTheHeap (Value.builtin "BaseException.__getattribute__")) = false := rfl
  have z2 : (Value.builtin "BaseException.__getattribute__" == Value.builtin "object.__getattribute__") = false := by decide +kernel
  have z1 : (onTheHeap (Value.ref D) && Value.builtin "BaseException.__getattribute__" == Value.builtin "object.__getattribute__") = false := by rw [z2]; rfl
  unfold getAttr? getAttrBy? getAttrBy
  refine wpAny_bind (wpAny_mkText (wpAny_bind (wpAny_attempt (wpAny_holding (wpAny_bind (L0.at (wpAny_bind (L1.at ?_))))))))
  show wpAny _ _ (if (onTheHeap (Value.ref D) && Value.builtin "BaseException.__getattribute__" == Value.builtin "object.__getattribute__") = true then _ else _) _ _ _
  rw [z1, if_neg Bool.false_ne_true]
  unfold getAttrByItsOwn hookBefore
  refine wpAny_bind ?_
  rw [if_pos (show onTheHeap (Value.ref D) = true from rfl)]
  refine L2.at ?_
  refine wpAny_bind (wpAny_attempt (wpAny_holding ?_))
  unfold callGetattribute
  rw [z0, if_neg Bool.false_ne_true]
  unfold boundAndCalled
  rw [PySem.F.excAttr_ValueError.ga.bind (.ref x)]
  refine wpAny_bind (wpAny_pure ?_)
  show wpAny _ _ (call (.builtin "BaseException.__getattribute__") [.ref x, .str "__class__" t]) _ _ _
  refine wpAny_call (codeAny_call_builtin PySem.F.excAttr_ValueError.ga.plain PySem.F.entry_bexc_ga ?_)
  refine @check_slot (model prog w) _ _ ⟨hp, g, d, t + 1, os⟩ "BaseException.__getattribute__" "BaseException" "__getattribute__" (.ref x) [.str "__class__" t] [] _ (by decide +kernel) (by decide +kernel) sub (PySem.F.args_bexc_ga (.ref x) (.str "__class__" t)) ?_
  unfold Builtin.«object.__getattribute__»
  refine wpAny_bind (wpAny_of_eq (a := ((Value.ref x : Value), [Value.str "__class__" t])) (by first | rfl | (simp only [slotArgs]; rfl)) ?_)
  refine wpAny_bind (wpAny_pure (wpAny_bind (L0.at (wpAny_bind (L4.at ?_)))))
  show wpAny _ _ (holding [Value.builtin "object.__class__"] (call (.builtin "getset_descriptor.__get__") [.builtin "object.__class__", .ref x, .ref D]) >>= ret) _ _ _
  refine wpAny_bind (wpAny_holding (wpAny_call (class_get (s := ⟨hp, g, d, t + 1, os⟩) (ox := ox) (od := od) X I C.hm ?_)))
  refine wpAny_pure ?_
  show wpAny _ _ (handedOut (.ref D)) _ _ _
  rw [handedOut_of (v := .ref D) rfl]
  first
    | exact wpAny_pure (wpAny_pure h)
    | exact wpAny_pure h
    | exact wpAny_pure (wpAny_bind (wpAny_pure (wpAny_pure h)))
theorem kit_exc (C : L2.ExcC K D) : KitX K (.ref x) (.ref D) (fun h => ∃ ox o, InstAt h x ox D (some o)) where
  ty := fun _ _ _ ⟨_, _, I⟩ => I.type
  it := fun _ _ X _ => by
    obtain ⟨cdD, hcD, _⟩ := any_some C.hd
    unfold clsIn at hcD
    split at hcD
    · rename_i c' d' cd' sl' ho
      exact fun A' Q' E' s' k q => by
        unfold isType loadHead
        exact wpAny_bind (wpAny_loadPart (k _ _ (X _ _ ho)) (wpAny_pure q))
    · cases hcD
  ne := (handS_kitx_exc (x := x) (ox := default) C.hg C.hk C.hs C.hd C.ha C.hn C.ht C.hm).ne
  ca := fun X ⟨_, o, I⟩ k => cls_exc C X I (by
    obtain ⟨cd, hc, _⟩ := any_some C.hd
    unfold findObj
    rw [hc, Option.bind_some, C.ha, Option.bind_some]
    simp [C.hn, C.ht]) k
end
end L3
namespace L3
open PySem PySem.Spec PyProof.Rows L2
theorem exV_at {P : Program} {w : World} {H : Hp} {h : Heap} {a : Addr} {cls : Value} {d : Option Addr} (hok : HOk P w H h) (e : H a = some (ExV a cls d)) : ∃ oe, h.get? a = some oe ∧ Zc cls d oe ∧ ∃ vs, oe.data = .fields vs :=
  (show ObjOk P w H h a (ExV a cls d) from hok a _ e).1
theorem exV_inst {P : Program} {w : World} {H : Hp} {h : Heap} {a C d : Addr} {fs : List (Str × V)} (hok : HOk P w H h) (e : H a = some (ExV a (.ref C) (some d))) (ed : H d = some (.xd fs)) :
    ∃ oe od mA, PySem.W.InstAt h a oe C (some od) ∧ h.get? d = some od ∧ h.Ns1 d mA ∧ (∀ f, RelO (fs.lookup f) (mA f)) ∧ ∀ n, PySem.W.lookIn n od = some (mA n) := by
  obtain ⟨oe, e1, z, vs, e2⟩ := exV_at hok e
  obtain ⟨mA, hns, hr⟩ := (show ObjOk P w H h d (.xd fs) from hok d _ ed)
  obtain ⟨od, ho, hl⟩ := lookIn_ns hns
  exact ⟨oe, od, mA, ⟨e1, z.1, by unfold PySem.W.notCls; rw [e2] <;> rfl, by rw [z.2]; exact ho⟩, ho, hns, hr, hl⟩
/-- isinstance of a kept error -/
def rIsiX (K : PySem.W.Frag) : List V → Hp → VK → Prop := fun xs H Q => rIsiA K xs H Q ∨ ∃ (a C d : Addr) (c : V) (u : Value) (fs : List (Str × V)) (b : Bool), xs = [.ref a, c] ∧ ClsV c u ∧ H a = some (ExV a (.ref C) (some d)) ∧ H d = some (.xd fs) ∧ ExcC K C ∧ PySem.W.kitOne K (.ref C) u = some b ∧ Q (.bl b) H
theorem callIsiX {X : Cx} : CallR X (.builtin "isinstance") (rIsiX X.K) := by
  intro pins s σ H xs us Q I r h
  rcases h with h | ⟨a, C, d, c, u, fs, b, rfl, k, ea, ed, T, e, q⟩
  · exact callIsi pins s σ H xs us Q I r h
  · obtain ⟨u1, u2, rfl, r1, r2⟩ := vals2 r
    have e2 := k.eq r2
    subst e2
    cases (show u1 = Value.ref a from r1)
    obtain ⟨oe, od, mA, J, _⟩ := exV_inst I.hok ea ed
    exact PySem.W.kia_one (kit_exc T) I.kIn ⟨oe, od, J⟩ e (fun z => nomatch z) fun tk => ⟨.bl b, H, I.tok tk, rfl, q⟩
/-- a field of a kept error -/
def tXfV (K : PySem.W.Frag) (n : Str) (te : TE) : TE := fun σ H Q => te σ H fun x H1 => ∃ (a C d : Addr) (fs : List (Str × V)) (v : V), x = .ref a ∧ H1 a = some (ExV a (.ref C) (some d)) ∧ H1 d = some (.xd fs) ∧ XfC K C ∧ PySem.W.findIn K (.ref C) n = some none ∧ fs.lookup n = some v ∧ Q v H1
theorem pe_xfV {X : Cx} {e : Expr} {te : TE} {pos : Pos} {n : Str} (he : PE X e te) (hb : attributeBase e n X.env (eval e X.env) = eval e X.env := by rfl) : PE X (.Attribute e n pos) (tXfV X.K n te) := by
  refine ⟨fun pins s σ H Q I h => ?_⟩
  refine attr_of hb (thn (he.run pins s σ H _ I h) fun u s1 hh => ?_)
  obtain ⟨x, H1, I1, rx, a, C, d, fs, v, rfl, ea, ed, T, hno, l, q⟩ := hh
  obtain rfl : u = Value.ref a := rx
  obtain ⟨oe, od, mA, J, _, _, hr, hl⟩ := exV_inst I1.hok ea ed
  obtain ⟨u, hu, ru⟩ := RelO.some_of (v := v) (o := mA n) (by rw [← l]; exact hr n)
  exact HandSPX.exc_get I1.kIn J T.ga T.gg T.exC (PySem.W.findObj_own T.hdC hno rfl (by rw [hl, hu])) (handed_of ru) ⟨v, H1, I1.tok _, ru, q⟩
end L3
end
section
namespace L3
open PySem PySem.Spec PySem.Calls PyProof.Rows PySem.W
end L3
namespace L3
open PySem PySem.Spec PySem.Calls PyProof.Rows PySem.W
end L3
end
section
namespace L3
open PySem PySem.Spec PyProof.Rows L2
section
variable {X : Cx} {CX : CXT} {k : Nat} {C f g : Addr} {fd fd' : FuncData} {ps : List Str} {sp : Sp} {E : XK} {op : Operator}
theorem ins_inst {P : Program} {w : World} {H : Hp} {h : Heap} {a C dx : Addr} {fs : List (Str × V)} (hok : HOk P w H h) (e : H a = some (.ins C dx fs)) : ∃ od, PySem.W.InstAt h a (PySem.W.instObj C dx) C (some od) := by
  obtain ⟨h1, _, h3, h4, mA, hns, _⟩ := (show ObjOk P w H h a (.ins C dx fs) from hok a _ e)
  obtain ⟨od, ho, _⟩ := lookIn_ns hns
  exact ⟨od, h4, rfl, rfl, ho⟩
/-- an operator of two values, its number part -/
def OpR1 (X : Cx) (op : Operator) (r : R2) : Prop := ∀ (pins : List (Addr × Obj)) (s : Shared) (σ : L2.St) (H : Hp) (x y : V) (v u : Value) (Q : VK), Inv X pins σ H s → RelV x v → RelV y u → r x y H Q →
  wpAny (model X.prog X.w) X.A (binaryOp1 op.info.2 v u) (fun r s' => ∃ z, r = some z ∧ EP X pins σ Q z s') X.xe s
theorem OpR1.or {r r' : R2} (h : OpR1 X op r) (h' : OpR1 X op r') : OpR1 X op (fun x y H Q => r x y H Q ∨ r' x y H Q) := fun pins s σ H x y v u Q I rx ry q => q.elim (h pins s σ H x y v u Q I rx ry) (h' pins s σ H x y v u Q I rx ry)
end
end L3
namespace L3
open PySem PySem.Spec PySem.Calls PyProof.Rows PySem.W
end L3
namespace L3
open PySem PySem.Spec PyProof.Rows L2
end L3
namespace L3
open PySem PySem.Spec PyProof.Rows L2
end L3
end
section
namespace L3
open PySem PySem.Spec PyProof.Rows L2 LamX
section
variable {P : Program} {w : World} {K : PySem.W.Frag} {mg : Str → Option Value} {base : Heap} {CX : CXT} {x qual : Str} {f : Addr} {fd : FuncData} {N ps : List Str} {k : Nat} {sp : Sp}
theorem funO {st : Stmt} (F : L2.Fun K x qual st f fd) (S : FnScope N ps (defScope st)) (len : ∀ vs H Q E, sp vs H Q E → vs.length = ps.length)
    (body : ∀ (cd : Value) (A : Around) (fr : List Env) (s : Shared) (H : Hp) (vs : List V) (Q : VK) (E : XK), Room k (A.deeper (envOfC qual (defScope st) s.heap.objs.size f cd)) → sp vs H Q E →
      ∃ t, PSs (cxOf CX P w K mg base N qual (defScope st) f cd A fr s H E) (defBody st) t ∧ t { nx := fun _ H' => Q .non H', rt := Q } (L2.start N vs) H) :
    FnOk P w K mg base CX (k + 1) f fd ps sp := by
  obtain ⟨oc, od, kV, doc, pm, an, cd, ct, sl, rfl, lk, hcd⟩ := F.ex
  exact ⟨len, fun A fr s H as us vs Q E hr e0 hb r h => LamX.run_ofS lk hcd S hr e0 hb r (len _ _ _ _ h) fun hr' => body cd A fr s H vs Q E hr' h⟩
/-- a def of the module, called by its name -/
structure FnO (P : Program) (w : World) (K : PySem.W.Frag) (mg : Str → Option Value) (base : Heap) (CX : CXT) (k : Nat) (x : Str) (ps : List Str) (sp : Sp) : Prop where
  ex : ∃ (f : Addr) (fd : FuncData), FnOk P w K mg base CX k f fd ps sp ∧ mg x = some (.ref f) ∧ PySem.W.keepIn K (.ref f) = true ∧ L2.Binds K fd ps []
/-- a class of the module, made by its name -/
structure McO (P : Program) (w : World) (K : PySem.W.Frag) (mg : Str → Option Value) (base : Heap) (CX : CXT) (k : Nat) (x : Str) (C : Addr) (ps : List Str) (sp : Sp) (dvs : List V) : Prop where
  ex : ∃ (f : Addr) (fd : FuncData) (ds : List Value), FnOk P w K mg base CX k f fd ps sp ∧ mg x = some (.ref C) ∧ Mk K C f ∧ L2.Binds K fd ps ds ∧ Vals dvs ds
end
section
variable {X : Cx} {CX : CXT} {k : Nat} {ps : List Str} {sp : Sp} {E : XK} {x : Str} {p pos : Pos} {e : Expr} {es : List Expr} {t : TA}
theorem pe_o {j : Nat} (c : FnO X.prog X.w X.K X.mg X.base CX k x ps sp) (hr : Room j X.A) (hx : Passes CX X E) (ha : PA X (e :: es) t) (hk : k ≤ j := by decide) (gl : Gl X x := by rfl)
    (hdb : (x == ("__debug__" : Str)) = false := by decide) (he : starEach (e :: es) X.env = (false, eval e X.env) :: starEach es X.env := by rfl) (hpl : (backTo pos (starEach es X.env)).any (·.1) = false := by rfl) :
    PE X (.Call (.Name x p) (e :: es) [] pos) (tCall sp [] E t) := by
  obtain ⟨f, fd, F, m, kp, b⟩ := c.ex
  exact pe_call F (hr.mono hk) gl m kp b .nil hx ha hdb he hpl
theorem pe_mko {j : Nat} {C : Addr} {dvs : List V} (c : McO X.prog X.w X.K X.mg X.base CX k x C ps sp dvs) (hr : Room j X.A) (hx : Passes CX X E) (ha : PA X (e :: es) t) (hk : k + 1 ≤ j := by decide) (gl : Gl X x := by rfl)
    (hdb : (x == ("__debug__" : Str)) = false := by decide) (he : starEach (e :: es) X.env = (false, eval e X.env) :: starEach es X.env := by rfl) (hpl : (backTo pos (starEach es X.env)).any (·.1) = false := by rfl) :
    PE X (.Call (.Name x p) (e :: es) [] pos) (tMake C sp dvs E t) := by
  obtain ⟨f, fd, ds, F, m, M, b, hd⟩ := c.ex
  exact pe_make M F (hr.mono hk) gl m b hd hx ha hdb he hpl
/-- nothing leaves -/
theorem passF : Passes (L2.CX X.prog X.w) X (fun _ _ _ => False) := fun _ _ _ _ _ _ _ ⟨_, _, _, _, _, _, _, _, _, _, _, _, z⟩ => z.elim
theorem passT {W : WX} (tk : Takes X W) (hW : ∀ cls d σ H, E cls d H → W cls d σ H) : Passes (L2.CX X.prog X.w) X E := passes_call tk hW
end
structure Er1 (P : Program) (w : World) (K : PySem.W.Frag) (mg : Str → Option Value) (base : Heap) (x : Str) (C : Addr) (g : Str) : Prop where
  oex : OexC K C
  m : mg x = some (.ref C)
  ex : ∃ (f : Addr) (fd : FuncData) (y : Str), PySem.W.findIn K (.ref C) "__init__" = some (some (.ref f)) ∧ PySem.W.typeIn K (.ref f) = some (.type "function") ∧ FnOk P w K mg base CX0 1 f fd ["self", y] (spErr1 C g) ∧ L2.Binds K fd ["self", y] []
def Rz (C : Addr) (g : Str) (v : V) (H : Hp) (E : XK) : Prop := ∀ d H', H d = none → Ex H H' → H' d = some (.xd [(g, v)]) → E (.ref C) (some d) H'
def rMk1 (C : Addr) (g : Str) (vs : List V) (H1 : Hp) (E : XK) : Prop := vs.length ≤ 1000 ∧ ∀ a, H1 a = none → spErr1 C g (.ref a :: (vs ++ [])) (upd H1 a (exo a C none))
  (fun v H2 => v = .non ∧ ∃ (d : Addr) (fs : List (Str × V)), H2 a = some (exo a C (some d)) ∧ H2 d = some (exd d fs) ∧ H1 d = none ∧ E (.ref C) (some d) (upd (del H2 a) d (.xd fs))) (fun _ _ _ => False)
def tRaise1 (C : Addr) (g : Str) (te : TE) (W : WX) : TS := fun _ σ H => te σ H fun v H1 => rMk1 C g [v] H1 (fun cls d H' => W cls d σ H')
theorem ps_raise1 {X : Cx} {W : WX} {x g : Str} {C : Addr} {j : Nat} {e : Expr} {te : TE} {p p1 pos : Pos} (c : Er1 X.prog X.w X.K X.mg X.base x C g) (hr : Room j X.A) (hc : X.calm = true) (tk : Takes X W) (ha : PA X [e] (tCons te tNil)) (hk : 2 ≤ j := by decide) (gl : Gl X x := by rfl)
    (hdb : (x == ("__debug__" : Str)) = false := by decide) (hst : starEach [e] X.env = (false, eval e X.env) :: starEach [] X.env := by rfl) :
    PS X (.Raise (some (.Call (.Name x p) [e] [] p1)) none pos) (tRaise1 C g te W) := by
  obtain ⟨f, fd, y, i1, i2, F, b⟩ := c.ex
  exact ps_raise (pos := pos) hc tk (pmk_oex (p := p) (pos := p1) c.oex i1 i2 F (hr.mono hk) b .nil pass0 gl c.m ha hdb hst)
theorem s_raise1 {C : Addr} {g : Str} {te : TE} {W : WX} {D : Ends} {σ : L2.St} {H : Hp} (h : te σ H fun v H1 => rMk1 C g [v] H1 (fun cls d H' => W cls d σ H')) : tRaise1 C g te W D σ H := h
theorem s_rz {C : Addr} {g : Str} {v : V} {H : Hp} {E : XK} (h : Rz C g v H E) : rMk1 C g [v] H E := by
  refine ⟨(show 1 ≤ 1000 by decide), fun a ha => ⟨a, v, rfl, upd_same, fun dx h1 h2 => ⟨rfl, dx, _, upd_same, ?_, ?_, h dx _ ?_ ?_ upd_same⟩⟩⟩
  · rw [upd_ne h2, upd_same]
  · rw [upd_ne h2] at h1; exact h1
  · rw [upd_ne h2] at h1; exact h1
  · intro b o e
    have n1 : b ≠ a := ne_of_none e ha
    have n2 : b ≠ dx := by
      rw [upd_ne h2] at h1
      exact ne_of_none e h1
    rw [upd_ne n2, del_ne n1, upd_ne n1, upd_ne n2, upd_ne n1]
    exact e
end L3
end
section
namespace L3
open PySem PySem.Spec PyProof.Rows L2 LamX
inductive Od (H : Hp) : V → Str → Prop
  | non : Od H .non (PyData.shown .none)
  | bl (b : Bool) : Od H (.bl b) (PyData.shown (.bool b))
  | str (z : Str) : z.length ≤ 100 → (PyData.str z).shown.length ≤ 1001 → Od H (.str z) (PyData.str z).shown
  | tup {p : Addr} {xs : List V} : H p = some (.tup xs) → xs.all fitF = true → (PyData.tuple (xs.map flatD)).shown.length ≤ 1000 → Od H (.ref p) (PyData.tuple (xs.map flatD)).shown
  | lst {p : Addr} {xs : List V} : H p = some (.lst xs) → xs.all fitF = true → xs.length ≤ 1000 → Od H (.ref p) (PyData.list (xs.map flatD)).shown
  | dic {p : Addr} : H p = some (.dK []) → Od H (.ref p) (PyData.dict []).shown
theorem Od.ex {H H' : Hp} {v : V} {t : Str} (h : Od H v t) (e : Ex H H') : Od H' v t := by
  cases h with
  | non => exact .non
  | bl b => exact .bl b
  | str z h1 h3 => exact .str z h1 h3
  | tup h1 h2 h3 => exact .tup (e _ _ h1) h2 h3
  | lst h1 h2 h3 => exact .lst (e _ _ h1) h2 h3
  | dic h1 => exact .dic (e _ _ h1)
theorem Od.ty {K : PySem.W.Frag} {H : Hp} {v : V} {t : Str} (h : Od H v t) : (∃ b, v = .bl b) ∨ ∃ T, TyX K H v (.type T) ∧ T ∈ ["NoneType", "str", "tuple", "list", "dict"] := by
  cases h with
  | non => exact .inr ⟨_, .base .non, by simp⟩
  | bl b => exact .inl ⟨b, rfl⟩
  | str z _ _ => exact .inr ⟨_, .base (.str z), by simp⟩
  | tup h1 _ _ => exact .inr ⟨_, .base (.tup h1), by simp⟩
  | lst h1 _ _ => exact .inr ⟨_, .base (.lst h1), by simp⟩
  | dic h1 => exact .inr ⟨_, .base (.dK h1), by simp⟩
theorem Od.noInt {K : PySem.W.Frag} {H : Hp} {v : V} {t : Str} (h : Od H v t) : (∃ b, v = .bl b) ∨ ∃ ty, TyA K H v ty ∧ PySem.W.kitOne K ty (.type "int") = some false := by
  rcases h.ty (K := K) with ⟨b, rfl⟩ | ⟨T, h1, h2⟩
  · exact .inl ⟨b, rfl⟩
  · refine .inr ⟨_, .x h1, ?_⟩
    simp only [List.mem_cons, List.not_mem_nil, or_false] at h2
    rcases h2 with rfl | rfl | rfl | rfl | rfl <;> exact kit_ty (by decide +kernel)
def rReprE : List V → Hp → VK → Prop := fun xs H Q => ∃ a, xs = [.ref a] ∧ ((H a = some (.dK []) ∧ Q (.str (PyData.dict []).shown) H) ∨ (H a = some (.dK [(.inl 1, .int 2)]) ∧ Q (.str (PyData.dict [(.int 1, .int 2)]).shown) H))
theorem call_reprE {X : Cx} (hg : X.A.guards = some []) (hu : X.A.units + 64 < cLine) : CallR X (.builtin "repr") rReprE := by
  intro pins s σ H xs us Q I r h
  obtain ⟨a, rfl, hc⟩ := h
  obtain ⟨u, rfl, rx⟩ := vals1 r
  cases (show u = Value.ref a from rx)
  rcases hc with ⟨ha, q⟩ | ⟨ha, q⟩
  · obtain ⟨_, hs, vs, kv, hd⟩ := (show ObjOk X.prog X.w H s.heap a (.dK []) from I.hok a _ ha)
    cases kv
    obtain ⟨o, es, ep, e1, ⟨e2, _⟩, e3, _, e4, _⟩ := hd
    have e5 : es.toList = [] := by
      generalize es.toList = l at e4
      cases l with
      | nil => rfl
      | cons a b => cases e4
    have rd : Reads s.heap (.ref a) (.dict []) [a] := .dict (as := []) (bs := []) e1 e2 e3 (by rw [e5]; exact .nil) (by rw [e5]; exact .nil)
    refine repr_of_reads' rd (by decide +kernel) (fun _ z => ?_) hg (by show X.A.units + (1 + 1) < cLine; omega) (fun _ _ e => e) (fun h' t tk k => ?_) (by decide +kernel)
    · cases (List.mem_singleton.mp z)
      simp at hs
    · exact ⟨.str _, H, I.kept k, ⟨t, rfl⟩, q⟩
  · obtain ⟨_, hs, vs, kv, hd⟩ := (show ObjOk X.prog X.w H s.heap a (.dK [(.inl 1, .int 2)]) from I.hok a _ ha)
    obtain ⟨o, es, ep, e1, ⟨e2, _⟩, e3, _, e4, _⟩ := hd
    obtain ⟨k0, v0, rfl, hk0, rv⟩ : ∃ k0 v0, vs = [(k0, v0)] ∧ k0 = .inl 1 ∧ L2.RelV (.int 2) v0 := by
      cases kv with
      | cons rv kv' => cases kv'; exact ⟨_, _, rfl, rv.1.symm, rv.2⟩
    subst hk0
    obtain ⟨e0, he, hk, hv⟩ : ∃ e0 : DictEntry, es.toList = [e0] ∧ (mixKind X.prog X.w).is (.inl 1) e0.key = true ∧ e0.val = v0 := by
      generalize es.toList = l at e4
      cases l with
      | nil => cases e4
      | cons e l =>
        generalize hz : [((Sum.inl 1 : Key), v0)] = z at e4
        cases e4 with
        | cons h1 h2 h3 =>
          cases hz
          cases h3
          exact ⟨e, rfl, h1, h2⟩
    obtain ⟨t1, hk'⟩ : ∃ t1, e0.key = .int 1 t1 := by
      generalize e0.key = kk at hk
      change keyIs (.inl 1) kk = true at hk
      cases kk
      case int i t =>
        have : i = 1 := by first | exact of_decide_eq_true hk | (simp [keyIs] at hk; omega)
        exact ⟨t, by rw [this]⟩
      all_goals exact Bool.noConfusion hk
    obtain ⟨t2, rfl⟩ := rv
    have rd : Reads s.heap (.ref a) (.dict [(.int 1, .int 2)]) [a] := .dict (as := []) (bs := []) e1 e2 e3 (by rw [he]; show ReadsAll _ [e0.key] [.int 1] []; rw [hk']; exact .cons (.int 1 t1) .nil) (by rw [he]; show ReadsAll _ [e0.val] [.int 2] []; rw [hv]; exact .cons (.int 2 t2) .nil)
    refine repr_of_reads' rd (by decide +kernel) (fun _ z => ?_) hg (by show X.A.units + (1 + 1) < cLine; omega) (fun _ _ e => e) (fun h' t tk k => ?_) (by decide +kernel)
    · cases (List.mem_singleton.mp z)
      simp at hs
    · exact ⟨.str _, H, I.kept k, ⟨t, rfl⟩, q⟩
def rReprU (K : PySem.W.Frag) : List V → Hp → VK → Prop := fun xs H Q => rRepr K xs H Q ∨ rReprE xs H Q
theorem callReprU {X : Cx} {K : PySem.W.Frag} (hK : X.K = K) (hg : X.A.guards = some []) (hu : X.A.units + 64 < cLine) : CallR X (.builtin "repr") (rReprU K) := by
  subst hK
  exact CallR.or (call_reprD hg hu) (call_reprE hg hu)
end L3
end
section
namespace L3
open PySem PySem.Spec PyProof.Rows L2 LamX
def flds (o u : Int) : List (Str × V) := putF "under" (.int u) (putF "over" (.int o) [])
def Rt (C : Addr) (H : Hp) (p : Addr) (o u : Int) : Prop := ∃ dx, H p = some (.ins C dx (flds o u))
/-- a number: a fraction or an int -/
def Nm (C : Addr) (H : Hp) (y : V) (o u : Int) : Prop := (∃ q, y = .ref q ∧ Rt C H q o u) ∨ (y = .int o ∧ u = 1)
theorem ins_tbl {C dx : Addr} {fs : List (Str × V)} : ∀ ps, HO.ins C dx fs ≠ .tbl ps := fun _ z => nomatch z
theorem Rt.exN {C : Addr} {H H' : Hp} {p : Addr} {o u : Int} (h : Rt C H p o u) (e : ExtN H H') : Rt C H' p o u := by
  obtain ⟨dx, h⟩ := h
  exact ⟨dx, e _ _ h ins_tbl⟩
theorem Ex.n {H H' : Hp} (e : Ex H H') : ExtN H H' := fun b o h _ => e b o h
theorem Rt.ex {C : Addr} {H H' : Hp} {p : Addr} {o u : Int} (h : Rt C H p o u) (e : Ex H H') : Rt C H' p o u := h.exN e.n
theorem Nm.exN {C : Addr} {H H' : Hp} {y : V} {o u : Int} (h : Nm C H y o u) (e : ExtN H H') : Nm C H' y o u := by
  rcases h with ⟨q, rfl, h⟩ | h
  · exact .inl ⟨q, rfl, h.exN e⟩
  · exact .inr h
theorem Nm.ex {C : Addr} {H H' : Hp} {y : V} {o u : Int} (h : Nm C H y o u) (e : Ex H H') : Nm C H' y o u := h.exN e.n
theorem Od.exN {H H' : Hp} {v : V} {t : Str} (h : Od H v t) (e : ExtN H H') : Od H' v t := by
  cases h with
  | non => exact .non
  | bl b => exact .bl b
  | str z h1 h3 => exact .str z h1 h3
  | tup h1 h2 h3 => exact .tup (e _ _ h1 fun _ z => nomatch z) h2 h3
  | lst h1 h2 h3 => exact .lst (e _ _ h1 fun _ z => nomatch z) h2 h3
  | dic h1 => exact .dic (e _ _ h1 fun _ z => nomatch z)
/-- within bounds -/
structure Bd (o u : Int) : Prop where
  ho : o.natAbs < 2 ^ 1000
  hu : u.natAbs < 2 ^ 1000
  pos : 0 < u
theorem Bd.ne {o u : Int} (b : Bd o u) : u ≠ 0 := by have := b.pos; omega
def spIsI : Sp := fun vs H Q _ => ∃ x, vs = [x] ∧ ((∃ i, x = .int i ∧ Q (.bl true) H) ∨ (∃ t, Od H x t ∧ Q (.bl false) H))
def spTold (C CB : Addr) : Sp := fun vs H Q E => ∃ x, vs = [x] ∧ ((∃ o u, Nm C H x o u ∧ ∀ q H', Ex H H' → Rt C H' q o u → Q (.ref q) H') ∨ (∃ t, Od H x t ∧ Rz CB "value" x H E))
abbrev numTys : List String := ["int", "NoneType", "bool", "str", "tuple", "list", "dict"]
end L3
end
section
namespace K49H
open PySem PySem.Spec PyProof.Rows L2 L3 LamX
def topS (i : Nat) : Stmt := PySem.Challenge.pw_latechunks_k49_texts_that_are_no_rules.main.body.getD i (.Pass ⟨0, 0, 0, 0⟩)
abbrev s_BadRest___init__ : Stmt := inClass (topS 11) 0
abbrev s_BadRule___init__ : Stmt := inClass (topS 12) 0
abbrev s_BadSize___init__ : Stmt := inClass (topS 9) 0
abbrev s_BadText___init__ : Stmt := inClass (topS 13) 0
abbrev s_BadTotal___init__ : Stmt := inClass (topS 10) 0
abbrev s_Divided___init__ : Stmt := inClass (topS 28) 0
abbrev s_Divided___str__ : Stmt := inClass (topS 28) 9
abbrev s_Fixed___init__ : Stmt := inClass (topS 27) 0
abbrev s_Fixed___str__ : Stmt := inClass (topS 27) 8
abbrev s_Greater___init__ : Stmt := inClass (topS 30) 0
abbrev s_Greater___str__ : Stmt := inClass (topS 30) 8
abbrev s_Lesser___init__ : Stmt := inClass (topS 29) 0
abbrev s_Lesser___str__ : Stmt := inClass (topS 29) 8
abbrev s_Rule_read : Stmt := inClass (topS 24) 0
abbrev s_TooMany___init__ : Stmt := inClass (topS 14) 0
abbrev s__law_bent : Stmt := topS 51
abbrev s__law_draw : Stmt := topS 41
abbrev s__law_due : Stmt := topS 49
abbrev s__law_heard : Stmt := topS 46
abbrev s__law_is_number : Stmt := topS 47
abbrev s__law_leaf : Stmt := topS 43
abbrev s__law_pen : Stmt := topS 40
abbrev s__law_pick : Stmt := topS 42
abbrev s__law_plain : Stmt := topS 44
abbrev s__law_read_right : Stmt := topS 50
abbrev s__law_rule_end : Stmt := topS 48
abbrev s__law_text : Stmt := topS 45
abbrev s_bounds_of : Stmt := topS 36
abbrev s_is_figures : Stmt := topS 18
abbrev s_is_integer : Stmt := topS 4
abbrev s_is_joinable : Stmt := topS 31
abbrev s_is_size : Stmt := topS 6
abbrev s_is_within : Stmt := topS 5
abbrev s_law : Stmt := topS 52
abbrev s_need_joined : Stmt := topS 32
abbrev s_need_numbers : Stmt := topS 35
abbrev s_number_of : Stmt := topS 17
abbrev s_rule_end : Stmt := topS 37
abbrev s_rule_told : Stmt := topS 38
abbrev s_word_at : Stmt := topS 34
def AllMk : Prop := ∀ {l : PySem.W.OpenLaw} {w : World} {K : PySem.W.Frag} {h : Heap} {mg : Str → Option Value} {fa AF AD AL AG CR0 CL CS CR CM CE CT CW ct0 Pt ctt1 Pt1 : Addr} (X : K.In h) (G : h.Ns mainGlobals mg) (hfa : mg "law" = some (.ref fa))
    {f1 : Addr} {od1 an1 : Option Addr} {sl1 : Array (Option Value)} {oc1 kV1 dc1 pm1 cd1 ct1 : Value}
    {f2 : Addr} {od2 an2 : Option Addr} {sl2 : Array (Option Value)} {oc2 kV2 dc2 pm2 cd2 ct2 : Value}
    {f3 : Addr} {od3 an3 : Option Addr} {sl3 : Array (Option Value)} {oc3 kV3 dc3 pm3 cd3 ct3 : Value}
    {f4 : Addr} {od4 an4 : Option Addr} {sl4 : Array (Option Value)} {oc4 kV4 dc4 pm4 cd4 ct4 : Value}
    {f5 : Addr} {od5 an5 : Option Addr} {sl5 : Array (Option Value)} {oc5 kV5 dc5 pm5 cd5 ct5 : Value}
    {f6 : Addr} {od6 an6 : Option Addr} {sl6 : Array (Option Value)} {oc6 kV6 dc6 pm6 cd6 ct6 : Value}
    {f7 : Addr} {od7 an7 : Option Addr} {sl7 : Array (Option Value)} {oc7 kV7 dc7 pm7 cd7 ct7 : Value}
    {f8 : Addr} {od8 an8 : Option Addr} {sl8 : Array (Option Value)} {oc8 kV8 dc8 pm8 cd8 ct8 : Value}
    {f9 : Addr} {od9 an9 : Option Addr} {sl9 : Array (Option Value)} {oc9 kV9 dc9 pm9 cd9 ct9 : Value}
    {f10 : Addr} {od10 an10 : Option Addr} {sl10 : Array (Option Value)} {oc10 kV10 dc10 pm10 cd10 ct10 : Value}
    {f11 : Addr} {od11 an11 : Option Addr} {sl11 : Array (Option Value)} {oc11 kV11 dc11 pm11 cd11 ct11 : Value}
    {f12 : Addr} {od12 an12 : Option Addr} {sl12 : Array (Option Value)} {oc12 kV12 dc12 pm12 cd12 ct12 : Value}
    {f13 : Addr} {od13 an13 : Option Addr} {sl13 : Array (Option Value)} {oc13 kV13 dc13 pm13 cd13 ct13 : Value}
    {f14 : Addr} {od14 an14 : Option Addr} {sl14 : Array (Option Value)} {oc14 kV14 dc14 pm14 cd14 ct14 : Value}
    {f15 : Addr} {od15 an15 : Option Addr} {sl15 : Array (Option Value)} {oc15 kV15 dc15 pm15 cd15 ct15 : Value}
    {f16 : Addr} {od16 an16 : Option Addr} {sl16 : Array (Option Value)} {oc16 kV16 dc16 pm16 cd16 ct16 : Value}
    {f17 : Addr} {od17 an17 : Option Addr} {sl17 : Array (Option Value)} {oc17 kV17 dc17 pm17 cd17 ct17 : Value}
    {f18 : Addr} {od18 an18 : Option Addr} {sl18 : Array (Option Value)} {oc18 kV18 dc18 pm18 cd18 ct18 : Value}
    {f19 : Addr} {od19 an19 : Option Addr} {sl19 : Array (Option Value)} {oc19 kV19 dc19 pm19 cd19 ct19 : Value}
    {f20 : Addr} {od20 an20 : Option Addr} {sl20 : Array (Option Value)} {oc20 kV20 dc20 pm20 cd20 ct20 : Value}
    {f21 : Addr} {od21 an21 : Option Addr} {sl21 : Array (Option Value)} {oc21 kV21 dc21 pm21 cd21 ct21 : Value}
    {f22 : Addr} {od22 an22 : Option Addr} {sl22 : Array (Option Value)} {oc22 kV22 dc22 pm22 cd22 ct22 : Value}
    {f23 : Addr} {od23 an23 : Option Addr} {sl23 : Array (Option Value)} {oc23 kV23 dc23 pm23 ct23 : Value}
    {f24 : Addr} {od24 an24 : Option Addr} {sl24 : Array (Option Value)} {oc24 kV24 dc24 pm24 cd24 ct24 : Value}
    {f25 : Addr} {od25 an25 : Option Addr} {sl25 : Array (Option Value)} {oc25 kV25 dc25 pm25 ct25 : Value}
    {g_AF___init__ : Addr} {od_AF___init__ an_AF___init__ : Option Addr} {sl_AF___init__ : Array (Option Value)} {oc_AF___init__ kV_AF___init__ dc_AF___init__ pm_AF___init__ cd_AF___init__ ct_AF___init__ : Value}
    {g_AF___str__ : Addr} {od_AF___str__ an_AF___str__ : Option Addr} {sl_AF___str__ : Array (Option Value)} {oc_AF___str__ kV_AF___str__ dc_AF___str__ pm_AF___str__ cd_AF___str__ ct_AF___str__ : Value}
    {g_AD___init__ : Addr} {od_AD___init__ an_AD___init__ : Option Addr} {sl_AD___init__ : Array (Option Value)} {oc_AD___init__ kV_AD___init__ dc_AD___init__ pm_AD___init__ cd_AD___init__ ct_AD___init__ : Value}
    {g_AD___str__ : Addr} {od_AD___str__ an_AD___str__ : Option Addr} {sl_AD___str__ : Array (Option Value)} {oc_AD___str__ kV_AD___str__ dc_AD___str__ pm_AD___str__ cd_AD___str__ ct_AD___str__ : Value}
    {g_AL___init__ : Addr} {od_AL___init__ an_AL___init__ : Option Addr} {sl_AL___init__ : Array (Option Value)} {oc_AL___init__ kV_AL___init__ dc_AL___init__ pm_AL___init__ cd_AL___init__ ct_AL___init__ : Value}
    {g_AL___str__ : Addr} {od_AL___str__ an_AL___str__ : Option Addr} {sl_AL___str__ : Array (Option Value)} {oc_AL___str__ kV_AL___str__ dc_AL___str__ pm_AL___str__ cd_AL___str__ ct_AL___str__ : Value}
    {g_AG___init__ : Addr} {od_AG___init__ an_AG___init__ : Option Addr} {sl_AG___init__ : Array (Option Value)} {oc_AG___init__ kV_AG___init__ dc_AG___init__ pm_AG___init__ cd_AG___init__ ct_AG___init__ : Value}
    {g_AG___str__ : Addr} {od_AG___str__ an_AG___str__ : Option Addr} {sl_AG___str__ : Array (Option Value)} {oc_AG___str__ kV_AG___str__ dc_AG___str__ pm_AG___str__ cd_AG___str__ ct_AG___str__ : Value}
    {p_CR0_read : Addr} {rest_CR0_read : List Value}
    {g_CR0_read : Addr} {od_CR0_read an_CR0_read : Option Addr} {sl_CR0_read : Array (Option Value)} {oc_CR0_read kV_CR0_read dc_CR0_read pm_CR0_read cd_CR0_read ct_CR0_read : Value}
    {fZS ccZS cdZS : Addr} {odZS anZS cldZS cddZS : Option Addr} {slZS cslZS ccsZS : Array (Option Value)} {ocZS kVZS dcZS pmZS ctZS clZS cclZS : Value} {vsZS : Array Value} {fileZS : Str} {tfZS : Tok}
    {fZR ccZR cdZR : Addr} {odZR anZR cldZR cddZR : Option Addr} {slZR cslZR ccsZR : Array (Option Value)} {ocZR kVZR dcZR pmZR ctZR clZR cclZR : Value} {vsZR : Array Value} {fileZR : Str} {tfZR : Tok}
    {fZM ccZM cdZM : Addr} {odZM anZM cldZM cddZM : Option Addr} {slZM cslZM ccsZM : Array (Option Value)} {ocZM kVZM dcZM pmZM ctZM clZM cclZM : Value} {vsZM : Array Value} {fileZM : Str} {tfZM : Tok}
    {fZE ccZE cdZE : Addr} {odZE anZE cldZE cddZE : Option Addr} {slZE cslZE ccsZE : Array (Option Value)} {ocZE kVZE dcZE pmZE ctZE clZE cclZE : Value} {vsZE : Array Value} {fileZE : Str} {tfZE : Tok}
    {fZT ccZT cdZT : Addr} {odZT anZT cldZT cddZT : Option Addr} {slZT cslZT ccsZT : Array (Option Value)} {ocZT kVZT dcZT pmZT ctZT clZT cclZT : Value} {vsZT : Array Value} {fileZT : Str} {tfZT : Tok}
    {fZW ccZW cdZW : Addr} {odZW anZW cldZW cddZW : Option Addr} {slZW cslZW ccsZW : Array (Option Value)} {ocZW kVZW dcZW pmZW ctZW clZW cclZW : Value} {vsZW : Array Value} {fileZW : Str} {tfZW : Tok}
    {tMS tMD tMA tMP tMR : Tok}
    {tMF : Tok}
    (a1 : PySem.W.nsIn K mainGlobals "is_integer" = some (some (.ref f1)))
    (l1 : K.lookup f1 = some ⟨oc1, od1, .func (PySem.W.fnOf "is_integer" "is_integer" (defArgs s_is_integer) (defBody s_is_integer) (defScope s_is_integer) .none kV1 dc1 pm1 an1 cd1 ct1), sl1⟩)
    (c1 : PySem.W.codeIn K cd1 "is_integer" = true)
    (k1 : PySem.W.keepIn K (.ref f1) = true)
    (a2 : PySem.W.nsIn K mainGlobals "is_within" = some (some (.ref f2)))
    (l2 : K.lookup f2 = some ⟨oc2, od2, .func (PySem.W.fnOf "is_within" "is_within" (defArgs s_is_within) (defBody s_is_within) (defScope s_is_within) .none kV2 dc2 pm2 an2 cd2 ct2), sl2⟩)
    (c2 : PySem.W.codeIn K cd2 "is_within" = true)
    (k2 : PySem.W.keepIn K (.ref f2) = true)
    (a3 : PySem.W.nsIn K mainGlobals "is_size" = some (some (.ref f3)))
    (l3 : K.lookup f3 = some ⟨oc3, od3, .func (PySem.W.fnOf "is_size" "is_size" (defArgs s_is_size) (defBody s_is_size) (defScope s_is_size) .none kV3 dc3 pm3 an3 cd3 ct3), sl3⟩)
    (c3 : PySem.W.codeIn K cd3 "is_size" = true)
    (k3 : PySem.W.keepIn K (.ref f3) = true)
    (a4 : PySem.W.nsIn K mainGlobals "is_joinable" = some (some (.ref f4)))
    (l4 : K.lookup f4 = some ⟨oc4, od4, .func (PySem.W.fnOf "is_joinable" "is_joinable" (defArgs s_is_joinable) (defBody s_is_joinable) (defScope s_is_joinable) .none kV4 dc4 pm4 an4 cd4 ct4), sl4⟩)
    (c4 : PySem.W.codeIn K cd4 "is_joinable" = true)
    (k4 : PySem.W.keepIn K (.ref f4) = true)
    (a5 : PySem.W.nsIn K mainGlobals "need_joined" = some (some (.ref f5)))
    (l5 : K.lookup f5 = some ⟨oc5, od5, .func (PySem.W.fnOf "need_joined" "need_joined" (defArgs s_need_joined) (defBody s_need_joined) (defScope s_need_joined) .none kV5 dc5 pm5 an5 cd5 ct5), sl5⟩)
    (c5 : PySem.W.codeIn K cd5 "need_joined" = true)
    (k5 : PySem.W.keepIn K (.ref f5) = true)
    (a6 : PySem.W.nsIn K mainGlobals "is_figures" = some (some (.ref f6)))
    (l6 : K.lookup f6 = some ⟨oc6, od6, .func (PySem.W.fnOf "is_figures" "is_figures" (defArgs s_is_figures) (defBody s_is_figures) (defScope s_is_figures) .none kV6 dc6 pm6 an6 cd6 ct6), sl6⟩)
    (c6 : PySem.W.codeIn K cd6 "is_figures" = true)
    (k6 : PySem.W.keepIn K (.ref f6) = true)
    (a7 : PySem.W.nsIn K mainGlobals "number_of" = some (some (.ref f7)))
    (l7 : K.lookup f7 = some ⟨oc7, od7, .func (PySem.W.fnOf "number_of" "number_of" (defArgs s_number_of) (defBody s_number_of) (defScope s_number_of) .none kV7 dc7 pm7 an7 cd7 ct7), sl7⟩)
    (c7 : PySem.W.codeIn K cd7 "number_of" = true)
    (k7 : PySem.W.keepIn K (.ref f7) = true)
    (a8 : PySem.W.nsIn K mainGlobals "word_at" = some (some (.ref f8)))
    (l8 : K.lookup f8 = some ⟨oc8, od8, .func (PySem.W.fnOf "word_at" "word_at" (defArgs s_word_at) (defBody s_word_at) (defScope s_word_at) .none kV8 dc8 pm8 an8 cd8 ct8), sl8⟩)
    (c8 : PySem.W.codeIn K cd8 "word_at" = true)
    (k8 : PySem.W.keepIn K (.ref f8) = true)
    (a9 : PySem.W.nsIn K mainGlobals "need_numbers" = some (some (.ref f9)))
    (l9 : K.lookup f9 = some ⟨oc9, od9, .func (PySem.W.fnOf "need_numbers" "need_numbers" (defArgs s_need_numbers) (defBody s_need_numbers) (defScope s_need_numbers) .none kV9 dc9 pm9 an9 cd9 ct9), sl9⟩)
    (c9 : PySem.W.codeIn K cd9 "need_numbers" = true)
    (k9 : PySem.W.keepIn K (.ref f9) = true)
    (a10 : PySem.W.nsIn K mainGlobals "bounds_of" = some (some (.ref f10)))
    (l10 : K.lookup f10 = some ⟨oc10, od10, .func (PySem.W.fnOf "bounds_of" "bounds_of" (defArgs s_bounds_of) (defBody s_bounds_of) (defScope s_bounds_of) .none kV10 dc10 pm10 an10 cd10 ct10), sl10⟩)
    (c10 : PySem.W.codeIn K cd10 "bounds_of" = true)
    (k10 : PySem.W.keepIn K (.ref f10) = true)
    (a11 : PySem.W.nsIn K mainGlobals "rule_end" = some (some (.ref f11)))
    (l11 : K.lookup f11 = some ⟨oc11, od11, .func (PySem.W.fnOf "rule_end" "rule_end" (defArgs s_rule_end) (defBody s_rule_end) (defScope s_rule_end) .none kV11 dc11 pm11 an11 cd11 ct11), sl11⟩)
    (c11 : PySem.W.codeIn K cd11 "rule_end" = true)
    (k11 : PySem.W.keepIn K (.ref f11) = true)
    (a12 : PySem.W.nsIn K mainGlobals "rule_told" = some (some (.ref f12)))
    (l12 : K.lookup f12 = some ⟨oc12, od12, .func (PySem.W.fnOf "rule_told" "rule_told" (defArgs s_rule_told) (defBody s_rule_told) (defScope s_rule_told) .none kV12 dc12 pm12 an12 cd12 ct12), sl12⟩)
    (c12 : PySem.W.codeIn K cd12 "rule_told" = true)
    (k12 : PySem.W.keepIn K (.ref f12) = true)
    (a13 : PySem.W.nsIn K mainGlobals "_law_heard" = some (some (.ref f13)))
    (l13 : K.lookup f13 = some ⟨oc13, od13, .func (PySem.W.fnOf "_law_heard" "_law_heard" (defArgs s__law_heard) (defBody s__law_heard) (defScope s__law_heard) .none kV13 dc13 pm13 an13 cd13 ct13), sl13⟩)
    (c13 : PySem.W.codeIn K cd13 "_law_heard" = true)
    (k13 : PySem.W.keepIn K (.ref f13) = true)
    (a14 : PySem.W.nsIn K mainGlobals "_law_pen" = some (some (.ref f14)))
    (l14 : K.lookup f14 = some ⟨oc14, od14, .func (PySem.W.fnOf "_law_pen" "_law_pen" (defArgs s__law_pen) (defBody s__law_pen) (defScope s__law_pen) .none kV14 dc14 pm14 an14 cd14 ct14), sl14⟩)
    (c14 : PySem.W.codeIn K cd14 "_law_pen" = true)
    (k14 : PySem.W.keepIn K (.ref f14) = true)
    (a15 : PySem.W.nsIn K mainGlobals "_law_draw" = some (some (.ref f15)))
    (l15 : K.lookup f15 = some ⟨oc15, od15, .func (PySem.W.fnOf "_law_draw" "_law_draw" (defArgs s__law_draw) (defBody s__law_draw) (defScope s__law_draw) .none kV15 dc15 pm15 an15 cd15 ct15), sl15⟩)
    (c15 : PySem.W.codeIn K cd15 "_law_draw" = true)
    (k15 : PySem.W.keepIn K (.ref f15) = true)
    (a16 : PySem.W.nsIn K mainGlobals "_law_pick" = some (some (.ref f16)))
    (l16 : K.lookup f16 = some ⟨oc16, od16, .func (PySem.W.fnOf "_law_pick" "_law_pick" (defArgs s__law_pick) (defBody s__law_pick) (defScope s__law_pick) .none kV16 dc16 pm16 an16 cd16 ct16), sl16⟩)
    (c16 : PySem.W.codeIn K cd16 "_law_pick" = true)
    (k16 : PySem.W.keepIn K (.ref f16) = true)
    (a17 : PySem.W.nsIn K mainGlobals "_law_leaf" = some (some (.ref f17)))
    (l17 : K.lookup f17 = some ⟨oc17, od17, .func (PySem.W.fnOf "_law_leaf" "_law_leaf" (defArgs s__law_leaf) (defBody s__law_leaf) (defScope s__law_leaf) .none kV17 dc17 pm17 an17 cd17 ct17), sl17⟩)
    (c17 : PySem.W.codeIn K cd17 "_law_leaf" = true)
    (k17 : PySem.W.keepIn K (.ref f17) = true)
    (a18 : PySem.W.nsIn K mainGlobals "_law_plain" = some (some (.ref f18)))
    (l18 : K.lookup f18 = some ⟨oc18, od18, .func (PySem.W.fnOf "_law_plain" "_law_plain" (defArgs s__law_plain) (defBody s__law_plain) (defScope s__law_plain) .none kV18 dc18 pm18 an18 cd18 ct18), sl18⟩)
    (c18 : PySem.W.codeIn K cd18 "_law_plain" = true)
    (k18 : PySem.W.keepIn K (.ref f18) = true)
    (a19 : PySem.W.nsIn K mainGlobals "_law_text" = some (some (.ref f19)))
    (l19 : K.lookup f19 = some ⟨oc19, od19, .func (PySem.W.fnOf "_law_text" "_law_text" (defArgs s__law_text) (defBody s__law_text) (defScope s__law_text) .none kV19 dc19 pm19 an19 cd19 ct19), sl19⟩)
    (c19 : PySem.W.codeIn K cd19 "_law_text" = true)
    (k19 : PySem.W.keepIn K (.ref f19) = true)
    (a20 : PySem.W.nsIn K mainGlobals "_law_is_number" = some (some (.ref f20)))
    (l20 : K.lookup f20 = some ⟨oc20, od20, .func (PySem.W.fnOf "_law_is_number" "_law_is_number" (defArgs s__law_is_number) (defBody s__law_is_number) (defScope s__law_is_number) .none kV20 dc20 pm20 an20 cd20 ct20), sl20⟩)
    (c20 : PySem.W.codeIn K cd20 "_law_is_number" = true)
    (k20 : PySem.W.keepIn K (.ref f20) = true)
    (a21 : PySem.W.nsIn K mainGlobals "_law_rule_end" = some (some (.ref f21)))
    (l21 : K.lookup f21 = some ⟨oc21, od21, .func (PySem.W.fnOf "_law_rule_end" "_law_rule_end" (defArgs s__law_rule_end) (defBody s__law_rule_end) (defScope s__law_rule_end) .none kV21 dc21 pm21 an21 cd21 ct21), sl21⟩)
    (c21 : PySem.W.codeIn K cd21 "_law_rule_end" = true)
    (k21 : PySem.W.keepIn K (.ref f21) = true)
    (a22 : PySem.W.nsIn K mainGlobals "_law_due" = some (some (.ref f22)))
    (l22 : K.lookup f22 = some ⟨oc22, od22, .func (PySem.W.fnOf "_law_due" "_law_due" (defArgs s__law_due) (defBody s__law_due) (defScope s__law_due) .none kV22 dc22 pm22 an22 cd22 ct22), sl22⟩)
    (c22 : PySem.W.codeIn K cd22 "_law_due" = true)
    (k22 : PySem.W.keepIn K (.ref f22) = true)
    (a23 : PySem.W.nsIn K mainGlobals "_law_read_right" = some (some (.ref f23)))
    (l23 : K.lookup f23 = some ⟨oc23, od23, .func (PySem.W.fnOf "_law_read_right" "_law_read_right" (defArgs s__law_read_right) (defBody s__law_read_right) (defScope s__law_read_right) .none kV23 dc23 pm23 an23 (.ref ct0) ct23), sl23⟩)
    (c23 : PySem.W.codeIn K (.ref ct0) "_law_read_right" = true)
    (k23 : PySem.W.keepIn K (.ref f23) = true)
    (a24 : PySem.W.nsIn K mainGlobals "_law_bent" = some (some (.ref f24)))
    (l24 : K.lookup f24 = some ⟨oc24, od24, .func (PySem.W.fnOf "_law_bent" "_law_bent" (defArgs s__law_bent) (defBody s__law_bent) (defScope s__law_bent) .none kV24 dc24 pm24 an24 cd24 ct24), sl24⟩)
    (c24 : PySem.W.codeIn K cd24 "_law_bent" = true)
    (k24 : PySem.W.keepIn K (.ref f24) = true)
    (a25 : PySem.W.nsIn K mainGlobals "law" = some (some (.ref f25)))
    (l25 : K.lookup f25 = some ⟨oc25, od25, .func (PySem.W.fnOf "law" "law" (defArgs s_law) (defBody s_law) (defScope s_law) .none kV25 dc25 pm25 an25 (.ref ctt1) ct25), sl25⟩)
    (c25 : PySem.W.codeIn K (.ref ctt1) "law" = true)
    (k25 : PySem.W.keepIn K (.ref f25) = true)
    (a_AF : PySem.W.nsIn K mainGlobals "Fixed" = some (some (.ref AF)))
    (a_AF___init__ : PySem.W.findIn K (.ref AF) "__init__" = some (some (.ref g_AF___init__)))
    (l_AF___init__ : K.lookup g_AF___init__ = some ⟨oc_AF___init__, od_AF___init__, .func (PySem.W.fnOf "__init__" "Fixed.__init__" (defArgs s_Fixed___init__) (defBody s_Fixed___init__) (defScope s_Fixed___init__) .none kV_AF___init__ dc_AF___init__ pm_AF___init__ an_AF___init__ cd_AF___init__ ct_AF___init__), sl_AF___init__⟩)
    (c_AF___init__ : PySem.W.codeIn K cd_AF___init__ "Fixed.__init__" = true)
    (k_AF___init__ : PySem.W.keepIn K (.ref g_AF___init__) = true)
    (i_AF___init__ : PySem.W.isFn K (.ref g_AF___init__) = true)
    (a_AF___str__ : PySem.W.findIn K (.ref AF) "__str__" = some (some (.ref g_AF___str__)))
    (l_AF___str__ : K.lookup g_AF___str__ = some ⟨oc_AF___str__, od_AF___str__, .func (PySem.W.fnOf "__str__" "Fixed.__str__" (defArgs s_Fixed___str__) (defBody s_Fixed___str__) (defScope s_Fixed___str__) .none kV_AF___str__ dc_AF___str__ pm_AF___str__ an_AF___str__ cd_AF___str__ ct_AF___str__), sl_AF___str__⟩)
    (c_AF___str__ : PySem.W.codeIn K cd_AF___str__ "Fixed.__str__" = true)
    (k_AF___str__ : PySem.W.keepIn K (.ref g_AF___str__) = true)
    (i_AF___str__ : PySem.W.isFn K (.ref g_AF___str__) = true)
    (mk_AF : PySem.W.makesIn K AF = true)
    (pg_AF : PySem.W.plainGet K AF Str.empty = true)
    (hd_AF : PySem.W.hasDictIn K AF = true)
    (po_AF : PySem.W.plainOver K AF = true)
    (sa_AF : PySem.W.findIn K (.ref AF) "__setattr__" = some (some (.builtin "object.__setattr__")))
    (kc_AF : PySem.W.keepIn K (.ref AF) = true)
    (ya_AF : PySem.W.findIn K (.ref AF) "__class__" = some (some (.builtin "object.__class__")))
    (yb : PySem.W.specialIn K (.builtin "object.__class__") "__get__" = some (some (.builtin "getset_descriptor.__get__")))
    (yc : PySem.W.takesIn K (.builtin "object.__class__") = some true)
    (yd_AF : PySem.W.mroIn K AF (.type "object") = some true)
    (yk_AF : PySem.W.kitOne K (.ref AF) (.ref AF) = some true)
    (n_AF_size : PySem.W.findIn K (.ref AF) "size" = some none)
    (n_AF_modulus : PySem.W.findIn K (.ref AF) "modulus" = some none)
    (n_AF_parts : PySem.W.findIn K (.ref AF) "parts" = some none)
    (a_AD : PySem.W.nsIn K mainGlobals "Divided" = some (some (.ref AD)))
    (a_AD___init__ : PySem.W.findIn K (.ref AD) "__init__" = some (some (.ref g_AD___init__)))
    (l_AD___init__ : K.lookup g_AD___init__ = some ⟨oc_AD___init__, od_AD___init__, .func (PySem.W.fnOf "__init__" "Divided.__init__" (defArgs s_Divided___init__) (defBody s_Divided___init__) (defScope s_Divided___init__) .none kV_AD___init__ dc_AD___init__ pm_AD___init__ an_AD___init__ cd_AD___init__ ct_AD___init__), sl_AD___init__⟩)
    (c_AD___init__ : PySem.W.codeIn K cd_AD___init__ "Divided.__init__" = true)
    (k_AD___init__ : PySem.W.keepIn K (.ref g_AD___init__) = true)
    (i_AD___init__ : PySem.W.isFn K (.ref g_AD___init__) = true)
    (a_AD___str__ : PySem.W.findIn K (.ref AD) "__str__" = some (some (.ref g_AD___str__)))
    (l_AD___str__ : K.lookup g_AD___str__ = some ⟨oc_AD___str__, od_AD___str__, .func (PySem.W.fnOf "__str__" "Divided.__str__" (defArgs s_Divided___str__) (defBody s_Divided___str__) (defScope s_Divided___str__) .none kV_AD___str__ dc_AD___str__ pm_AD___str__ an_AD___str__ cd_AD___str__ ct_AD___str__), sl_AD___str__⟩)
    (c_AD___str__ : PySem.W.codeIn K cd_AD___str__ "Divided.__str__" = true)
    (k_AD___str__ : PySem.W.keepIn K (.ref g_AD___str__) = true)
    (i_AD___str__ : PySem.W.isFn K (.ref g_AD___str__) = true)
    (mk_AD : PySem.W.makesIn K AD = true)
    (pg_AD : PySem.W.plainGet K AD Str.empty = true)
    (hd_AD : PySem.W.hasDictIn K AD = true)
    (po_AD : PySem.W.plainOver K AD = true)
    (sa_AD : PySem.W.findIn K (.ref AD) "__setattr__" = some (some (.builtin "object.__setattr__")))
    (kc_AD : PySem.W.keepIn K (.ref AD) = true)
    (ya_AD : PySem.W.findIn K (.ref AD) "__class__" = some (some (.builtin "object.__class__")))
    (yd_AD : PySem.W.mroIn K AD (.type "object") = some true)
    (yk_AD : PySem.W.kitOne K (.ref AD) (.ref AD) = some true)
    (n_AD_x : PySem.W.findIn K (.ref AD) "x" = some none)
    (n_AD_y : PySem.W.findIn K (.ref AD) "y" = some none)
    (n_AD_w : PySem.W.findIn K (.ref AD) "w" = some none)
    (n_AD_modulus : PySem.W.findIn K (.ref AD) "modulus" = some none)
    (n_AD_parts : PySem.W.findIn K (.ref AD) "parts" = some none)
    (a_AL : PySem.W.nsIn K mainGlobals "Lesser" = some (some (.ref AL)))
    (a_AL___init__ : PySem.W.findIn K (.ref AL) "__init__" = some (some (.ref g_AL___init__)))
    (l_AL___init__ : K.lookup g_AL___init__ = some ⟨oc_AL___init__, od_AL___init__, .func (PySem.W.fnOf "__init__" "Lesser.__init__" (defArgs s_Lesser___init__) (defBody s_Lesser___init__) (defScope s_Lesser___init__) .none kV_AL___init__ dc_AL___init__ pm_AL___init__ an_AL___init__ cd_AL___init__ ct_AL___init__), sl_AL___init__⟩)
    (c_AL___init__ : PySem.W.codeIn K cd_AL___init__ "Lesser.__init__" = true)
    (k_AL___init__ : PySem.W.keepIn K (.ref g_AL___init__) = true)
    (i_AL___init__ : PySem.W.isFn K (.ref g_AL___init__) = true)
    (a_AL___str__ : PySem.W.findIn K (.ref AL) "__str__" = some (some (.ref g_AL___str__)))
    (l_AL___str__ : K.lookup g_AL___str__ = some ⟨oc_AL___str__, od_AL___str__, .func (PySem.W.fnOf "__str__" "Lesser.__str__" (defArgs s_Lesser___str__) (defBody s_Lesser___str__) (defScope s_Lesser___str__) .none kV_AL___str__ dc_AL___str__ pm_AL___str__ an_AL___str__ cd_AL___str__ ct_AL___str__), sl_AL___str__⟩)
    (c_AL___str__ : PySem.W.codeIn K cd_AL___str__ "Lesser.__str__" = true)
    (k_AL___str__ : PySem.W.keepIn K (.ref g_AL___str__) = true)
    (i_AL___str__ : PySem.W.isFn K (.ref g_AL___str__) = true)
    (mk_AL : PySem.W.makesIn K AL = true)
    (pg_AL : PySem.W.plainGet K AL Str.empty = true)
    (hd_AL : PySem.W.hasDictIn K AL = true)
    (po_AL : PySem.W.plainOver K AL = true)
    (sa_AL : PySem.W.findIn K (.ref AL) "__setattr__" = some (some (.builtin "object.__setattr__")))
    (kc_AL : PySem.W.keepIn K (.ref AL) = true)
    (ya_AL : PySem.W.findIn K (.ref AL) "__class__" = some (some (.builtin "object.__class__")))
    (yd_AL : PySem.W.mroIn K AL (.type "object") = some true)
    (yk_AL : PySem.W.kitOne K (.ref AL) (.ref AL) = some true)
    (n_AL_one : PySem.W.findIn K (.ref AL) "one" = some none)
    (n_AL_other : PySem.W.findIn K (.ref AL) "other" = some none)
    (n_AL_modulus : PySem.W.findIn K (.ref AL) "modulus" = some none)
    (n_AL_parts : PySem.W.findIn K (.ref AL) "parts" = some none)
    (a_AG : PySem.W.nsIn K mainGlobals "Greater" = some (some (.ref AG)))
    (a_AG___init__ : PySem.W.findIn K (.ref AG) "__init__" = some (some (.ref g_AG___init__)))
    (l_AG___init__ : K.lookup g_AG___init__ = some ⟨oc_AG___init__, od_AG___init__, .func (PySem.W.fnOf "__init__" "Greater.__init__" (defArgs s_Greater___init__) (defBody s_Greater___init__) (defScope s_Greater___init__) .none kV_AG___init__ dc_AG___init__ pm_AG___init__ an_AG___init__ cd_AG___init__ ct_AG___init__), sl_AG___init__⟩)
    (c_AG___init__ : PySem.W.codeIn K cd_AG___init__ "Greater.__init__" = true)
    (k_AG___init__ : PySem.W.keepIn K (.ref g_AG___init__) = true)
    (i_AG___init__ : PySem.W.isFn K (.ref g_AG___init__) = true)
    (a_AG___str__ : PySem.W.findIn K (.ref AG) "__str__" = some (some (.ref g_AG___str__)))
    (l_AG___str__ : K.lookup g_AG___str__ = some ⟨oc_AG___str__, od_AG___str__, .func (PySem.W.fnOf "__str__" "Greater.__str__" (defArgs s_Greater___str__) (defBody s_Greater___str__) (defScope s_Greater___str__) .none kV_AG___str__ dc_AG___str__ pm_AG___str__ an_AG___str__ cd_AG___str__ ct_AG___str__), sl_AG___str__⟩)
    (c_AG___str__ : PySem.W.codeIn K cd_AG___str__ "Greater.__str__" = true)
    (k_AG___str__ : PySem.W.keepIn K (.ref g_AG___str__) = true)
    (i_AG___str__ : PySem.W.isFn K (.ref g_AG___str__) = true)
    (mk_AG : PySem.W.makesIn K AG = true)
    (pg_AG : PySem.W.plainGet K AG Str.empty = true)
    (hd_AG : PySem.W.hasDictIn K AG = true)
    (po_AG : PySem.W.plainOver K AG = true)
    (sa_AG : PySem.W.findIn K (.ref AG) "__setattr__" = some (some (.builtin "object.__setattr__")))
    (kc_AG : PySem.W.keepIn K (.ref AG) = true)
    (ya_AG : PySem.W.findIn K (.ref AG) "__class__" = some (some (.builtin "object.__class__")))
    (yd_AG : PySem.W.mroIn K AG (.type "object") = some true)
    (yk_AG : PySem.W.kitOne K (.ref AG) (.ref AG) = some true)
    (n_AG_one : PySem.W.findIn K (.ref AG) "one" = some none)
    (n_AG_other : PySem.W.findIn K (.ref AG) "other" = some none)
    (n_AG_modulus : PySem.W.findIn K (.ref AG) "modulus" = some none)
    (n_AG_parts : PySem.W.findIn K (.ref AG) "parts" = some none)
    (a_CR0 : PySem.W.nsIn K mainGlobals "Rule" = some (some (.ref CR0)))
    (sr_CR0 : PySem.W.readsIn K CR0 (.type "type") = true)
    (sg_CR0 : PySem.W.specialIn K (.ref CR0) "__getattribute__" = some (some (.builtin "type.__getattribute__")))
    (sf_CR0_read : PySem.W.findCls K (.ref CR0) (.type "type") "read" = some (.get (.builtin "staticmethod.__get__") (.ref p_CR0_read) .none (.ref CR0)))
    (sc_CR0_read : PySem.W.recIn K p_CR0_read "staticmethod" = some (.ref g_CR0_read :: rest_CR0_read))
    (l_CR0_read : K.lookup g_CR0_read = some ⟨oc_CR0_read, od_CR0_read, .func (PySem.W.fnOf "read" "Rule.read" (defArgs s_Rule_read) (defBody s_Rule_read) (defScope s_Rule_read) .none kV_CR0_read dc_CR0_read pm_CR0_read an_CR0_read cd_CR0_read ct_CR0_read), sl_CR0_read⟩)
    (c_CR0_read : PySem.W.codeIn K cd_CR0_read "Rule.read" = true)
    (k_CR0_read : PySem.W.keepIn K (.ref g_CR0_read) = true)
    (a_CL : PySem.W.nsIn K mainGlobals "LateError" = some (some (.ref CL)))
    (a_lcm : PySem.W.nsIn K mainGlobals "lcm" = some (some (.builtin "math.lcm")))
    (aZS : PySem.W.nsIn K mainGlobals "BadSize" = some (some (.ref CS)))
    (iZS : PySem.W.findIn K (.ref CS) "__init__" = some (some (.ref fZS)))
    (tZS : PySem.W.typeIn K (.ref fZS) = some (.type "function"))
    (lZS : K.lookup fZS = some ⟨ocZS, odZS, .func (PySem.W.fnX "__init__" "BadSize.__init__" (defArgs s_BadSize___init__) (defBody s_BadSize___init__) (defScope s_BadSize___init__) [("__class__", ccZS)] .none kVZS dcZS pmZS anZS (.ref cdZS) ctZS), slZS⟩)
    (cZS : PySem.W.codeIn K (.ref cdZS) "BadSize.__init__" = true)
    (eZS : ∃ nm q N bs bm sn sub ab col dd k0 k1 k2 k3 k5, K.lookup CS = some (excClassObj nm q CS N bs bm true sn sub ab col dd k0 k1 k2 k3 k5 "ValueError.__new__") ∧ PySem.HandSPX.refsVE bm = true)
    (sZS : PySem.W.findIn K (.ref CS) "__setattr__" = some (some (.builtin "object.__setattr__")))
    (xZS : PySem.W.subIn K (.ref CS) (.type "BaseException") = some true)
    (yZS : PySem.W.typeIn K (.ref CS) = some (.type "type"))
    (kZS : PySem.W.keepIn K (.ref CS) = true)
    (qZS : K.lookup ccZS = some ⟨clZS, cldZS, .cell (some (.ref CS)), cslZS⟩)
    (uZS : K.lookup cdZS = some ⟨cclZS, cddZS, .fields vsZS, ccsZS⟩)
    (vZS : vsZS[2]? = some (.str fileZS tfZS))
    (wZS : ((l.prog.main.file : Str) == fileZS) = true)
    (mZS : PySem.W.mroIn K CS (.ref CS) = some true)
    (pZS : PySem.W.ks_superIn K CS CS "__init__" = some (some (.builtin "ValueError.__init__")))
    (bZS : PySem.W.subIn K (.ref CS) (.type "ValueError") = some true)
    (zS : PySem.W.nsIn K mainGlobals "super" = some none)
    (tS : (l.prog.main.scope.names.lookup ("super" : Str)).isSome = false)
    (oB : PySem.W.nsIn K cStatics "thirdparty.any" = some none)
    (nZS_value : PySem.W.findIn K (.ref CS) "value" = some none)
    (gZS : PySem.W.findIn K (.ref CS) "__getattribute__" = some (some (.builtin "BaseException.__getattribute__")))
    (hZS : PySem.W.findIn K (.ref CS) "__getattr__" = some none)
    (dZS : PySem.W.hasDictIn K CS = true)
    (jZS : PySem.W.findIn K (.ref CS) "__class__" = some (some (.builtin "object.__class__")))
    (rZS : PySem.W.mroIn K CS (.type "object") = some true)
    (k1ZS : PySem.W.kitOne K (.ref CS) (.ref CS) = some true)
    (emZS : PySem.W.exmOne K (.ref CS) (.ref CL) = some true)
    (aZR : PySem.W.nsIn K mainGlobals "BadRule" = some (some (.ref CR)))
    (iZR : PySem.W.findIn K (.ref CR) "__init__" = some (some (.ref fZR)))
    (tZR : PySem.W.typeIn K (.ref fZR) = some (.type "function"))
    (lZR : K.lookup fZR = some ⟨ocZR, odZR, .func (PySem.W.fnX "__init__" "BadRule.__init__" (defArgs s_BadRule___init__) (defBody s_BadRule___init__) (defScope s_BadRule___init__) [("__class__", ccZR)] .none kVZR dcZR pmZR anZR (.ref cdZR) ctZR), slZR⟩)
    (cZR : PySem.W.codeIn K (.ref cdZR) "BadRule.__init__" = true)
    (eZR : ∃ nm q N bs bm sn sub ab col dd k0 k1 k2 k3 k5, K.lookup CR = some (excClassObj nm q CR N bs bm true sn sub ab col dd k0 k1 k2 k3 k5 "ValueError.__new__") ∧ PySem.HandSPX.refsVE bm = true)
    (sZR : PySem.W.findIn K (.ref CR) "__setattr__" = some (some (.builtin "object.__setattr__")))
    (xZR : PySem.W.subIn K (.ref CR) (.type "BaseException") = some true)
    (yZR : PySem.W.typeIn K (.ref CR) = some (.type "type"))
    (kZR : PySem.W.keepIn K (.ref CR) = true)
    (qZR : K.lookup ccZR = some ⟨clZR, cldZR, .cell (some (.ref CR)), cslZR⟩)
    (uZR : K.lookup cdZR = some ⟨cclZR, cddZR, .fields vsZR, ccsZR⟩)
    (vZR : vsZR[2]? = some (.str fileZR tfZR))
    (wZR : ((l.prog.main.file : Str) == fileZR) = true)
    (mZR : PySem.W.mroIn K CR (.ref CR) = some true)
    (pZR : PySem.W.ks_superIn K CR CR "__init__" = some (some (.builtin "ValueError.__init__")))
    (bZR : PySem.W.subIn K (.ref CR) (.type "ValueError") = some true)
    (nZR_part : PySem.W.findIn K (.ref CR) "part" = some none)
    (gZR : PySem.W.findIn K (.ref CR) "__getattribute__" = some (some (.builtin "BaseException.__getattribute__")))
    (hZR : PySem.W.findIn K (.ref CR) "__getattr__" = some none)
    (dZR : PySem.W.hasDictIn K CR = true)
    (jZR : PySem.W.findIn K (.ref CR) "__class__" = some (some (.builtin "object.__class__")))
    (rZR : PySem.W.mroIn K CR (.type "object") = some true)
    (k1ZR : PySem.W.kitOne K (.ref CR) (.ref CR) = some true)
    (emZR : PySem.W.exmOne K (.ref CR) (.ref CL) = some true)
    (aZM : PySem.W.nsIn K mainGlobals "TooMany" = some (some (.ref CM)))
    (iZM : PySem.W.findIn K (.ref CM) "__init__" = some (some (.ref fZM)))
    (tZM : PySem.W.typeIn K (.ref fZM) = some (.type "function"))
    (lZM : K.lookup fZM = some ⟨ocZM, odZM, .func (PySem.W.fnX "__init__" "TooMany.__init__" (defArgs s_TooMany___init__) (defBody s_TooMany___init__) (defScope s_TooMany___init__) [("__class__", ccZM)] .none kVZM dcZM pmZM anZM (.ref cdZM) ctZM), slZM⟩)
    (cZM : PySem.W.codeIn K (.ref cdZM) "TooMany.__init__" = true)
    (eZM : ∃ nm q N bs bm sn sub ab col dd k0 k1 k2 k3 k5, K.lookup CM = some (excClassObj nm q CM N bs bm true sn sub ab col dd k0 k1 k2 k3 k5 "ValueError.__new__") ∧ PySem.HandSPX.refsVE bm = true)
    (sZM : PySem.W.findIn K (.ref CM) "__setattr__" = some (some (.builtin "object.__setattr__")))
    (xZM : PySem.W.subIn K (.ref CM) (.type "BaseException") = some true)
    (yZM : PySem.W.typeIn K (.ref CM) = some (.type "type"))
    (kZM : PySem.W.keepIn K (.ref CM) = true)
    (qZM : K.lookup ccZM = some ⟨clZM, cldZM, .cell (some (.ref CM)), cslZM⟩)
    (uZM : K.lookup cdZM = some ⟨cclZM, cddZM, .fields vsZM, ccsZM⟩)
    (vZM : vsZM[2]? = some (.str fileZM tfZM))
    (wZM : ((l.prog.main.file : Str) == fileZM) = true)
    (mZM : PySem.W.mroIn K CM (.ref CM) = some true)
    (pZM : PySem.W.ks_superIn K CM CM "__init__" = some (some (.builtin "ValueError.__init__")))
    (bZM : PySem.W.subIn K (.ref CM) (.type "ValueError") = some true)
    (nZM_what : PySem.W.findIn K (.ref CM) "what" = some none)
    (nZM_most : PySem.W.findIn K (.ref CM) "most" = some none)
    (gZM : PySem.W.findIn K (.ref CM) "__getattribute__" = some (some (.builtin "BaseException.__getattribute__")))
    (hZM : PySem.W.findIn K (.ref CM) "__getattr__" = some none)
    (dZM : PySem.W.hasDictIn K CM = true)
    (jZM : PySem.W.findIn K (.ref CM) "__class__" = some (some (.builtin "object.__class__")))
    (rZM : PySem.W.mroIn K CM (.type "object") = some true)
    (k1ZM : PySem.W.kitOne K (.ref CM) (.ref CM) = some true)
    (emZM : PySem.W.exmOne K (.ref CM) (.ref CL) = some true)
    (aZE : PySem.W.nsIn K mainGlobals "BadRest" = some (some (.ref CE)))
    (iZE : PySem.W.findIn K (.ref CE) "__init__" = some (some (.ref fZE)))
    (tZE : PySem.W.typeIn K (.ref fZE) = some (.type "function"))
    (lZE : K.lookup fZE = some ⟨ocZE, odZE, .func (PySem.W.fnX "__init__" "BadRest.__init__" (defArgs s_BadRest___init__) (defBody s_BadRest___init__) (defScope s_BadRest___init__) [("__class__", ccZE)] .none kVZE dcZE pmZE anZE (.ref cdZE) ctZE), slZE⟩)
    (cZE : PySem.W.codeIn K (.ref cdZE) "BadRest.__init__" = true)
    (eZE : ∃ nm q N bs bm sn sub ab col dd k0 k1 k2 k3 k5, K.lookup CE = some (excClassObj nm q CE N bs bm true sn sub ab col dd k0 k1 k2 k3 k5 "ValueError.__new__") ∧ PySem.HandSPX.refsVE bm = true)
    (sZE : PySem.W.findIn K (.ref CE) "__setattr__" = some (some (.builtin "object.__setattr__")))
    (xZE : PySem.W.subIn K (.ref CE) (.type "BaseException") = some true)
    (yZE : PySem.W.typeIn K (.ref CE) = some (.type "type"))
    (kZE : PySem.W.keepIn K (.ref CE) = true)
    (qZE : K.lookup ccZE = some ⟨clZE, cldZE, .cell (some (.ref CE)), cslZE⟩)
    (uZE : K.lookup cdZE = some ⟨cclZE, cddZE, .fields vsZE, ccsZE⟩)
    (vZE : vsZE[2]? = some (.str fileZE tfZE))
    (wZE : ((l.prog.main.file : Str) == fileZE) = true)
    (mZE : PySem.W.mroIn K CE (.ref CE) = some true)
    (pZE : PySem.W.ks_superIn K CE CE "__init__" = some (some (.builtin "ValueError.__init__")))
    (bZE : PySem.W.subIn K (.ref CE) (.type "ValueError") = some true)
    (nZE_value : PySem.W.findIn K (.ref CE) "value" = some none)
    (gZE : PySem.W.findIn K (.ref CE) "__getattribute__" = some (some (.builtin "BaseException.__getattribute__")))
    (hZE : PySem.W.findIn K (.ref CE) "__getattr__" = some none)
    (dZE : PySem.W.hasDictIn K CE = true)
    (jZE : PySem.W.findIn K (.ref CE) "__class__" = some (some (.builtin "object.__class__")))
    (rZE : PySem.W.mroIn K CE (.type "object") = some true)
    (k1ZE : PySem.W.kitOne K (.ref CE) (.ref CE) = some true)
    (emZE : PySem.W.exmOne K (.ref CE) (.ref CL) = some true)
    (aZT : PySem.W.nsIn K mainGlobals "BadTotal" = some (some (.ref CT)))
    (iZT : PySem.W.findIn K (.ref CT) "__init__" = some (some (.ref fZT)))
    (tZT : PySem.W.typeIn K (.ref fZT) = some (.type "function"))
    (lZT : K.lookup fZT = some ⟨ocZT, odZT, .func (PySem.W.fnX "__init__" "BadTotal.__init__" (defArgs s_BadTotal___init__) (defBody s_BadTotal___init__) (defScope s_BadTotal___init__) [("__class__", ccZT)] .none kVZT dcZT pmZT anZT (.ref cdZT) ctZT), slZT⟩)
    (cZT : PySem.W.codeIn K (.ref cdZT) "BadTotal.__init__" = true)
    (eZT : ∃ nm q N bs bm sn sub ab col dd k0 k1 k2 k3 k5, K.lookup CT = some (excClassObj nm q CT N bs bm true sn sub ab col dd k0 k1 k2 k3 k5 "ValueError.__new__") ∧ PySem.HandSPX.refsVE bm = true)
    (sZT : PySem.W.findIn K (.ref CT) "__setattr__" = some (some (.builtin "object.__setattr__")))
    (xZT : PySem.W.subIn K (.ref CT) (.type "BaseException") = some true)
    (yZT : PySem.W.typeIn K (.ref CT) = some (.type "type"))
    (kZT : PySem.W.keepIn K (.ref CT) = true)
    (qZT : K.lookup ccZT = some ⟨clZT, cldZT, .cell (some (.ref CT)), cslZT⟩)
    (uZT : K.lookup cdZT = some ⟨cclZT, cddZT, .fields vsZT, ccsZT⟩)
    (vZT : vsZT[2]? = some (.str fileZT tfZT))
    (wZT : ((l.prog.main.file : Str) == fileZT) = true)
    (mZT : PySem.W.mroIn K CT (.ref CT) = some true)
    (pZT : PySem.W.ks_superIn K CT CT "__init__" = some (some (.builtin "ValueError.__init__")))
    (bZT : PySem.W.subIn K (.ref CT) (.type "ValueError") = some true)
    (nZT_value : PySem.W.findIn K (.ref CT) "value" = some none)
    (gZT : PySem.W.findIn K (.ref CT) "__getattribute__" = some (some (.builtin "BaseException.__getattribute__")))
    (hZT : PySem.W.findIn K (.ref CT) "__getattr__" = some none)
    (dZT : PySem.W.hasDictIn K CT = true)
    (jZT : PySem.W.findIn K (.ref CT) "__class__" = some (some (.builtin "object.__class__")))
    (rZT : PySem.W.mroIn K CT (.type "object") = some true)
    (k1ZT : PySem.W.kitOne K (.ref CT) (.ref CT) = some true)
    (emZT : PySem.W.exmOne K (.ref CT) (.ref CL) = some true)
    (aZW : PySem.W.nsIn K mainGlobals "BadText" = some (some (.ref CW)))
    (iZW : PySem.W.findIn K (.ref CW) "__init__" = some (some (.ref fZW)))
    (tZW : PySem.W.typeIn K (.ref fZW) = some (.type "function"))
    (lZW : K.lookup fZW = some ⟨ocZW, odZW, .func (PySem.W.fnX "__init__" "BadText.__init__" (defArgs s_BadText___init__) (defBody s_BadText___init__) (defScope s_BadText___init__) [("__class__", ccZW)] .none kVZW dcZW pmZW anZW (.ref cdZW) ctZW), slZW⟩)
    (cZW : PySem.W.codeIn K (.ref cdZW) "BadText.__init__" = true)
    (eZW : ∃ nm q N bs bm sn sub ab col dd k0 k1 k2 k3 k5, K.lookup CW = some (excClassObj nm q CW N bs bm true sn sub ab col dd k0 k1 k2 k3 k5 "ValueError.__new__") ∧ PySem.HandSPX.refsVE bm = true)
    (sZW : PySem.W.findIn K (.ref CW) "__setattr__" = some (some (.builtin "object.__setattr__")))
    (xZW : PySem.W.subIn K (.ref CW) (.type "BaseException") = some true)
    (yZW : PySem.W.typeIn K (.ref CW) = some (.type "type"))
    (kZW : PySem.W.keepIn K (.ref CW) = true)
    (qZW : K.lookup ccZW = some ⟨clZW, cldZW, .cell (some (.ref CW)), cslZW⟩)
    (uZW : K.lookup cdZW = some ⟨cclZW, cddZW, .fields vsZW, ccsZW⟩)
    (vZW : vsZW[2]? = some (.str fileZW tfZW))
    (wZW : ((l.prog.main.file : Str) == fileZW) = true)
    (mZW : PySem.W.mroIn K CW (.ref CW) = some true)
    (pZW : PySem.W.ks_superIn K CW CW "__init__" = some (some (.builtin "ValueError.__init__")))
    (bZW : PySem.W.subIn K (.ref CW) (.type "ValueError") = some true)
    (nZW_line : PySem.W.findIn K (.ref CW) "line" = some none)
    (nZW_word : PySem.W.findIn K (.ref CW) "word" = some none)
    (gZW : PySem.W.findIn K (.ref CW) "__getattribute__" = some (some (.builtin "BaseException.__getattribute__")))
    (hZW : PySem.W.findIn K (.ref CW) "__getattr__" = some none)
    (dZW : PySem.W.hasDictIn K CW = true)
    (jZW : PySem.W.findIn K (.ref CW) "__class__" = some (some (.builtin "object.__class__")))
    (rZW : PySem.W.mroIn K CW (.type "object") = some true)
    (k1ZW : PySem.W.kitOne K (.ref CW) (.ref CW) = some true)
    (emZW : PySem.W.exmOne K (.ref CW) (.ref CL) = some true)
    (kJ_AF : PySem.W.kitAny K (.ref AF) [.ref AF, .ref AD, .ref AL, .ref AG] = some true)
    (kJ_AD : PySem.W.kitAny K (.ref AD) [.ref AF, .ref AD, .ref AL, .ref AG] = some true)
    (kJ_AL : PySem.W.kitAny K (.ref AL) [.ref AF, .ref AD, .ref AL, .ref AG] = some true)
    (kJ_AG : PySem.W.kitAny K (.ref AG) [.ref AF, .ref AD, .ref AL, .ref AG] = some true)
    (kTJ : (numTys.all fun T => decide (PySem.W.kitAny K (.type T) [.ref AF, .ref AD, .ref AL, .ref AG] = some false)) = true)
    (kE_AFAF : PySem.W.kitOne K (.ref AF) (.ref AF) = some true)
    (kE_AFAD : PySem.W.kitOne K (.ref AF) (.ref AD) = some false)
    (kE_AFAL : PySem.W.kitOne K (.ref AF) (.ref AL) = some false)
    (kE_AFAG : PySem.W.kitOne K (.ref AF) (.ref AG) = some false)
    (kE_ADAF : PySem.W.kitOne K (.ref AD) (.ref AF) = some false)
    (kE_ADAD : PySem.W.kitOne K (.ref AD) (.ref AD) = some true)
    (kE_ADAL : PySem.W.kitOne K (.ref AD) (.ref AL) = some false)
    (kE_ADAG : PySem.W.kitOne K (.ref AD) (.ref AG) = some false)
    (kE_ALAF : PySem.W.kitOne K (.ref AL) (.ref AF) = some false)
    (kE_ALAD : PySem.W.kitOne K (.ref AL) (.ref AD) = some false)
    (kE_ALAL : PySem.W.kitOne K (.ref AL) (.ref AL) = some true)
    (kE_ALAG : PySem.W.kitOne K (.ref AL) (.ref AG) = some false)
    (kE_AGAF : PySem.W.kitOne K (.ref AG) (.ref AF) = some false)
    (kE_AGAD : PySem.W.kitOne K (.ref AG) (.ref AD) = some false)
    (kE_AGAL : PySem.W.kitOne K (.ref AG) (.ref AL) = some false)
    (kE_AGAG : PySem.W.kitOne K (.ref AG) (.ref AG) = some true)
    (kTE_AF : (numTys.all fun T => decide (PySem.W.kitOne K (.type T) (.ref AF) = some false)) = true)
    (kR_AF : PySem.W.kitOne K (.ref AF) (.ref CR0) = some true)
    (kTE_AD : (numTys.all fun T => decide (PySem.W.kitOne K (.type T) (.ref AD) = some false)) = true)
    (kR_AD : PySem.W.kitOne K (.ref AD) (.ref CR0) = some true)
    (kTE_AL : (numTys.all fun T => decide (PySem.W.kitOne K (.type T) (.ref AL) = some false)) = true)
    (kR_AL : PySem.W.kitOne K (.ref AL) (.ref CR0) = some true)
    (kTE_AG : (numTys.all fun T => decide (PySem.W.kitOne K (.type T) (.ref AG) = some false)) = true)
    (kR_AG : PySem.W.kitOne K (.ref AG) (.ref CR0) = some true)
    (gMS : PySem.W.nsIn K mainGlobals "MOST_SIZE" = some (some (.int 1000000000000000000000000000000 tMS)))
    (gMD : PySem.W.nsIn K mainGlobals "MOST_DIVISOR" = some (some (.int 24 tMD)))
    (gMA : PySem.W.nsIn K mainGlobals "MOST_ADDED" = some (some (.int 1000 tMA)))
    (gMP : PySem.W.nsIn K mainGlobals "MOST_PARTS" = some (some (.int 6 tMP)))
    (gMR : PySem.W.nsIn K mainGlobals "MOST_RESIDUES" = some (some (.int 5000 tMR)))
    (k6CSCR : PySem.W.kitOne K (.ref CS) (.ref CR) = some false)
    (k6CECR : PySem.W.kitOne K (.ref CE) (.ref CR) = some false)
    (k6CECS : PySem.W.kitOne K (.ref CE) (.ref CS) = some false)
    (k6CTCR : PySem.W.kitOne K (.ref CT) (.ref CR) = some false)
    (k6CTCS : PySem.W.kitOne K (.ref CT) (.ref CS) = some false)
    (k6CTCE : PySem.W.kitOne K (.ref CT) (.ref CE) = some false)
    (k6CWCR : PySem.W.kitOne K (.ref CW) (.ref CR) = some false)
    (k6CWCS : PySem.W.kitOne K (.ref CW) (.ref CS) = some false)
    (k6CWCE : PySem.W.kitOne K (.ref CW) (.ref CE) = some false)
    (k6CWCT : PySem.W.kitOne K (.ref CW) (.ref CT) = some false)
    (k6CMCR : PySem.W.kitOne K (.ref CM) (.ref CR) = some false)
    (k6CMCS : PySem.W.kitOne K (.ref CM) (.ref CS) = some false)
    (k6CMCE : PySem.W.kitOne K (.ref CM) (.ref CE) = some false)
    (k6CMCT : PySem.W.kitOne K (.ref CM) (.ref CT) = some false)
    (k6CMCW : PySem.W.kitOne K (.ref CM) (.ref CW) = some false)
    (digs : PySem.W.nsIn K cStatics "sys.int_max_str_digits" = some none)
    (gMF : PySem.W.nsIn K mainGlobals "MOST_FIGURES" = some (some (.int 4000 tMF)))
    (fm_AF : PySem.W.findIn K (.ref AF) "__format__" = some (some (.builtin "object.__format__")))
    (fm_AD : PySem.W.findIn K (.ref AD) "__format__" = some (some (.builtin "object.__format__")))
    (fm_AL : PySem.W.findIn K (.ref AL) "__format__" = some (some (.builtin "object.__format__")))
    (fm_AG : PySem.W.findIn K (.ref AG) "__format__" = some (some (.builtin "object.__format__")))
    (kFS : PySem.W.kitOne K (.ref AF) (.type "str") = some false)
    (z_isinstance : PySem.W.nsIn K mainGlobals "isinstance" = some none)
    (z_int : PySem.W.nsIn K mainGlobals "int" = some none)
    (z_bool : PySem.W.nsIn K mainGlobals "bool" = some none)
    (z_len : PySem.W.nsIn K mainGlobals "len" = some none)
    (z_abs : PySem.W.nsIn K mainGlobals "abs" = some none)
    (z_list : PySem.W.nsIn K mainGlobals "list" = some none)
    (z_tuple : PySem.W.nsIn K mainGlobals "tuple" = some none)
    (z_range : PySem.W.nsIn K mainGlobals "range" = some none)
    (z_repr : PySem.W.nsIn K mainGlobals "repr" = some none)
    (z_str : PySem.W.nsIn K mainGlobals "str" = some none)
    (z_min : PySem.W.nsIn K mainGlobals "min" = some none)
    (z_max : PySem.W.nsIn K mainGlobals "max" = some none)
    (z_all : PySem.W.nsIn K mainGlobals "all" = some none)
    (z_enumerate : PySem.W.nsIn K mainGlobals "enumerate" = some none)
    (hCPt : PySem.W.codeHdIn K ct0 Pt = true)
    (nPPt : K.lookup Pt = none)
    (hCPt1 : PySem.W.codeHdIn K ctt1 Pt1 = true)
    (nPPt1 : K.lookup Pt1 = none)
    (tPPt : h.get? Pt = some { cls := .none, data := .fields #[] })
    (tPPt1 : h.get? Pt1 = some { cls := .none, data := .fields #[] })
    (hPd0 : [Pt, Pt1].Nodup), LawG l w K CX0 77 63 "_law_script" mg fa h
end K49H
namespace L3
open PySem PySem.W
def kmOb (a t : List Addr) (s : SharedT) : List (Option Obj) × List (Option Obj) := (a.map (HandSHeadRun.getT s), t.map (HandSHeadRun.getT s))
theorem kmOb_eq {K : Params → Frag} {a : List Addr} {e : ∀ P, a = (K P).map (·.1)} {t : List Addr} (s : SharedT) : kmOb a t s = (kmHook K a e t).obs s.abs := by
  have h : HandSHeadRun.getT s = s.abs.heap.get? := funext (HandSHeadRun.getT_eq s)
  unfold kmOb
  rw [h]; rfl
def looseN : List PySem.Str := (["_wall", "MOST_SIZE", "is_integer", "is_within", "is_size", "LateError", "BadSize", "BadTotal", "BadRest", "BadRule", "BadText", "TooMany", "MOST_FIGURES", "number_of", "is_figures", "MOST_PARTS", "MOST_RESIDUES", "MOST_DIVISOR", "MOST_ADDED", "Rule", "need_rest", "cut_to", "Fixed", "Divided", "Lesser", "Greater", "is_joinable", "need_joined", "need_sides", "word_at"] : List PySem.Str) ++ (["need_numbers", "bounds_of", "rule_end", "rule_told", "_law_pen", "_law_draw", "_law_pick", "_law_leaf", "_law_plain", "_law_text", "_law_heard", "_law_is_number", "_law_rule_end", "_law_due", "_law_read_right", "_law_bent"] : List PySem.Str)
open PySem.Calls PyProof.Rows HandSHeadRun in
def RunEqI (r : OpenRow) (q : Program) (H : Hook) (ob : SharedT → H.α) (M : Nat) (loose : List PySem.Str) (w : World) : Prop :=
  (wholeF (fun p => stepQ (denQ tabQ) p w) fenceQ M r.prog).map (fun x => (looksF r.prog x.1.heap x.2.abs, seenQ q loose (importedModules r.prog.main.body) (fun s => xlAt q [] s && recOk r.toRowW.records s) x.2.abs, ob x.2)) = some (true, openGood q loose, H.val w)
open PySem.Calls PyProof.Rows HandSHeadRun in
theorem head_anyI {r : OpenRow} {q : Program} {H : Hook} {ob : SharedT → H.α} {M : Nat} {loose : List PySem.Str} {d : DefRec} {kwd : List (PySem.Str × PySem.Expr)} (ho : ∀ s : SharedT, ob s = H.obs s.abs)
    (run : ∀ w, RunEqI r q H ob M loose w)
    (hdef : defOf q r.name = some (d, kwd)) (hp : r.prog.theDef r.name = some (d.params, d.body, d.scope)) (hk : kwWritten? d.params.kwonlyargs d.params.kw_defaults = some kwd)
    (hwr : (!r.writes || r.records.isEmpty) = true) (k1 : r.wellSaid = true) (ok : (chainsOk q && opensWell r.prog && (frees r.toRowW && r.within.isEmpty)) = true) (hb : r.prog.bare) (hw : r.toRowW.promised)
    (call : WalkO q loose (XL q []) H.says r.toRowW d kwd fun f vs => PySem.call f vs) : r.Holds := by
  have left : LeftO r.prog q loose (fun s => xlAt q [] s && recOk r.toRowW.records s) H.obs H.val M true :=
    left_imp fun w => by
      have z := run w
      have eo : ob = fun s => H.obs s.abs := funext ho
      rw [eo] at z
      rw [wholeQ_eq]
      simp only [seenQ_eq]
      exact z
  exact holds_open (r := r) (q := q) (loose := loose) (XP := XL q []) (YP := H.says) (d := d) (kwd := kwd) left H.of H.keeps (fun s z => xl_of s (Bool.and_eq_true_iff.mp z).1) XL.keeps hdef hp hk (fun s z => recFacts_of (Bool.and_eq_true_iff.mp z).2) hwr k1 ok hb hw call
end L3
open PySem PySem.W PyProof.Rows
local macro_rules | `(tactic| o_head (kmHook $K $a $e $t)) => `(tactic| (refine L3.head_anyI (r := (OpenLaw.row PySem.Challenge.rw_latechunks_k49_texts_that_are_no_rules)) (q := view (OpenLaw.row PySem.Challenge.rw_latechunks_k49_texts_that_are_no_rules).prog [0, 52]) (H := kmHook $K $a $e $t) (ob := L3.kmOb $a $t) (M := 30000) (loose := L3.looseN) (d := HandSHeadRun.topDef ((OpenLaw.row PySem.Challenge.rw_latechunks_k49_texts_that_are_no_rules)).prog 52) (kwd := []) L3.kmOb_eq (fun w => by unfold L3.RunEqI; kernel_rfl) (by kernel_rfl) (by kernel_rfl) (by kernel_rfl) (by rfl) (by first | assumption | decide +kernel) (by decide +kernel) ⟨rfl, rfl, rfl, rfl, rfl, by decide +kernel⟩ ?hw ?hc))
set_option maxRecDepth 100000 in
set_option maxHeartbeats 0 in
theorem K49H.head : K49H.AllMk → PySem.Challenge.rw_latechunks_k49_texts_that_are_no_rules.Holds := by
  intro all_mk0
  w_on; o_law; k_head; (case hw => w_witness2)
  k_fill
  refine L3.walkG (l := PySem.Challenge.rw_latechunks_k49_texts_that_are_no_rules) (n := 63) (k := 77) (x := "_law_script") (CX := fun _ => L2.CX0) rfl (by decide) (by kernel_rfl) ⟨rfl, by decide, by decide⟩ (fun w h Y => PySem.W.km_in_of Y) ?F (fun _ _ _ _ _ z => z)
  case F =>
    intro w mg fa h Y KX G hmg0
    have hmg : mg ("law" : PySem.Str) = some (.ref fa) := by
      have e : (HandSHeadRun.topDef ((OpenLaw.row PySem.Challenge.rw_latechunks_k49_texts_that_are_no_rules)).prog 52).name = ("law" : PySem.Str) := by kernel_rfl
      rw [← e]
      exact hmg0
    have all_mk := @all_mk0
    unfold K49H.AllMk at all_mk
    clear all_mk0
    refine' all_mk (Pt := 693) (Pt1 := 707) KX G hmg ?a1 ?l1 ?c1 ?k1 ?a2 ?l2 ?c2 ?k2 ?a3 ?l3 ?c3 ?k3 ?a4 ?l4 ?c4 ?k4 ?a5 ?l5 ?c5 ?k5 ?a6 ?l6 ?c6 ?k6 ?a7 ?l7 ?c7 ?k7 ?a8 ?l8 ?c8 ?k8 ?a9 ?l9 ?c9 ?k9 ?a10 ?l10 ?c10 ?k10 ?a11 ?l11 ?c11 ?k11 ?a12 ?l12 ?c12 ?k12 ?a13 ?l13 ?c13 ?k13 ?a14 ?l14 ?c14 ?k14 ?a15 ?l15 ?c15 ?k15 ?a16 ?l16 ?c16 ?k16 ?a17 ?l17 ?c17 ?k17 ?a18 ?l18 ?c18 ?k18 ?a19 ?l19 ?c19 ?k19 ?a20 ?l20 ?c20 ?k20 ?a21 ?l21 ?c21 ?k21 ?a22 ?l22 ?c22 ?k22 ?a23 ?l23 ?c23 ?k23 ?a24 ?l24 ?c24 ?k24 ?a25 ?l25 ?c25 ?k25 ?a_AF ?a_AF___init__ ?l_AF___init__ ?c_AF___init__ ?k_AF___init__ ?i_AF___init__ ?a_AF___str__ ?l_AF___str__ ?c_AF___str__ ?k_AF___str__ ?i_AF___str__ ?mk_AF ?pg_AF ?hd_AF ?po_AF ?sa_AF ?kc_AF ?ya_AF ?yb ?yc ?yd_AF ?yk_AF ?n_AF_size ?n_AF_modulus ?n_AF_parts ?a_AD ?a_AD___init__ ?l_AD___init__ ?c_AD___init__ ?k_AD___init__ ?i_AD___init__ ?a_AD___str__ ?l_AD___str__ ?c_AD___str__ ?k_AD___str__ ?i_AD___str__ ?mk_AD ?pg_AD ?hd_AD ?po_AD ?sa_AD ?kc_AD ?ya_AD ?yd_AD ?yk_AD ?n_AD_x ?n_AD_y ?n_AD_w ?n_AD_modulus ?n_AD_parts ?a_AL ?a_AL___init__ ?l_AL___init__ ?c_AL___init__ ?k_AL___init__ ?i_AL___init__ ?a_AL___str__ ?l_AL___str__ ?c_AL___str__ ?k_AL___str__ ?i_AL___str__ ?mk_AL ?pg_AL ?hd_AL ?po_AL ?sa_AL ?kc_AL ?ya_AL ?yd_AL ?yk_AL ?n_AL_one ?n_AL_other ?n_AL_modulus ?n_AL_parts ?a_AG ?a_AG___init__ ?l_AG___init__ ?c_AG___init__ ?k_AG___init__ ?i_AG___init__ ?a_AG___str__ ?l_AG___str__ ?c_AG___str__ ?k_AG___str__ ?i_AG___str__ ?mk_AG ?pg_AG ?hd_AG ?po_AG ?sa_AG ?kc_AG ?ya_AG ?yd_AG ?yk_AG ?n_AG_one ?n_AG_other ?n_AG_modulus ?n_AG_parts ?a_CR0 ?sr_CR0 ?sg_CR0 ?sf_CR0_read ?sc_CR0_read ?l_CR0_read ?c_CR0_read ?k_CR0_read ?a_CL ?a_lcm ?aZS ?iZS ?tZS ?lZS ?cZS ?eZS ?sZS ?xZS ?yZS ?kZS ?qZS ?uZS ?vZS ?wZS ?mZS ?pZS ?bZS ?zS ?tS ?oB ?nZS_value ?gZS ?hZS ?dZS ?jZS ?rZS ?k1ZS ?emZS ?aZR ?iZR ?tZR ?lZR ?cZR ?eZR ?sZR ?xZR ?yZR ?kZR ?qZR ?uZR ?vZR ?wZR ?mZR ?pZR ?bZR ?nZR_part ?gZR ?hZR ?dZR ?jZR ?rZR ?k1ZR ?emZR ?aZM ?iZM ?tZM ?lZM ?cZM ?eZM ?sZM ?xZM ?yZM ?kZM ?qZM ?uZM ?vZM ?wZM ?mZM ?pZM ?bZM ?nZM_what ?nZM_most ?gZM ?hZM ?dZM ?jZM ?rZM ?k1ZM ?emZM ?aZE ?iZE ?tZE ?lZE ?cZE ?eZE ?sZE ?xZE ?yZE ?kZE ?qZE ?uZE ?vZE ?wZE ?mZE ?pZE ?bZE ?nZE_value ?gZE ?hZE ?dZE ?jZE ?rZE ?k1ZE ?emZE ?aZT ?iZT ?tZT ?lZT ?cZT ?eZT ?sZT ?xZT ?yZT ?kZT ?qZT ?uZT ?vZT ?wZT ?mZT ?pZT ?bZT ?nZT_value ?gZT ?hZT ?dZT ?jZT ?rZT ?k1ZT ?emZT ?aZW ?iZW ?tZW ?lZW ?cZW ?eZW ?sZW ?xZW ?yZW ?kZW ?qZW ?uZW ?vZW ?wZW ?mZW ?pZW ?bZW ?nZW_line ?nZW_word ?gZW ?hZW ?dZW ?jZW ?rZW ?k1ZW ?emZW ?kJ_AF ?kJ_AD ?kJ_AL ?kJ_AG ?kTJ ?kE_AFAF ?kE_AFAD ?kE_AFAL ?kE_AFAG ?kE_ADAF ?kE_ADAD ?kE_ADAL ?kE_ADAG ?kE_ALAF ?kE_ALAD ?kE_ALAL ?kE_ALAG ?kE_AGAF ?kE_AGAD ?kE_AGAL ?kE_AGAG ?kTE_AF ?kR_AF ?kTE_AD ?kR_AD ?kTE_AL ?kR_AL ?kTE_AG ?kR_AG ?gMS ?gMD ?gMA ?gMP ?gMR ?k6CSCR ?k6CECR ?k6CECS ?k6CTCR ?k6CTCS ?k6CTCE ?k6CWCR ?k6CWCS ?k6CWCE ?k6CWCT ?k6CMCR ?k6CMCS ?k6CMCE ?k6CMCT ?k6CMCW ?digs ?gMF ?fm_AF ?fm_AD ?fm_AL ?fm_AG ?kFS ?z_isinstance ?z_int ?z_bool ?z_len ?z_abs ?z_list ?z_tuple ?z_range ?z_repr ?z_str ?z_min ?z_max ?z_all ?z_enumerate ?hCPt ?nPPt ?hCPt1 ?nPPt1 ?tPPt ?tPPt1 ?hPd0
    (case a1 => k_is)
    (case l1 => k_is)
    (case c1 => k_is)
    (case k1 => k_is)
    (case a2 => k_is)
    (case l2 => k_is)
    (case c2 => k_is)
    (case k2 => k_is)
    (case a3 => k_is)
    (case l3 => k_is)
    (case c3 => k_is)
    (case k3 => k_is)
    (case a4 => k_is)
    (case l4 => k_is)
    (case c4 => k_is)
    (case k4 => k_is)
    (case a5 => k_is)
    (case l5 => k_is)
    (case c5 => k_is)
    (case k5 => k_is)
    (case a6 => k_is)
    (case l6 => k_is)
    (case c6 => k_is)
    (case k6 => k_is)
    (case a7 => k_is)
    (case l7 => k_is)
    (case c7 => k_is)
    (case k7 => k_is)
    (case a8 => k_is)
    (case l8 => k_is)
    (case c8 => k_is)
    (case k8 => k_is)
    (case a9 => k_is)
    (case l9 => k_is)
    (case c9 => k_is)
    (case k9 => k_is)
    (case a10 => k_is)
    (case l10 => k_is)
    (case c10 => k_is)
    (case k10 => k_is)
    (case a11 => k_is)
    (case l11 => k_is)
    (case c11 => k_is)
    (case k11 => k_is)
    (case a12 => k_is)
    (case l12 => k_is)
    (case c12 => k_is)
    (case k12 => k_is)
    (case a13 => k_is)
    (case l13 => k_is)
    (case c13 => k_is)
    (case k13 => k_is)
    (case a14 => k_is)
    (case l14 => k_is)
    (case c14 => k_is)
    (case k14 => k_is)
    (case a15 => k_is)
    (case l15 => k_is)
    (case c15 => k_is)
    (case k15 => k_is)
    (case a16 => k_is)
    (case l16 => k_is)
    (case c16 => k_is)
    (case k16 => k_is)
    (case a17 => k_is)
    (case l17 => k_is)
    (case c17 => k_is)
    (case k17 => k_is)
    (case a18 => k_is)
    (case l18 => k_is)
    (case c18 => k_is)
    (case k18 => k_is)
    (case a19 => k_is)
    (case l19 => k_is)
    (case c19 => k_is)
    (case k19 => k_is)
    (case a20 => k_is)
    (case l20 => k_is)
    (case c20 => k_is)
    (case k20 => k_is)
    (case a21 => k_is)
    (case l21 => k_is)
    (case c21 => k_is)
    (case k21 => k_is)
    (case a22 => k_is)
    (case l22 => k_is)
    (case c22 => k_is)
    (case k22 => k_is)
    (case a23 => k_is)
    (case l23 => k_is)
    (case c23 => k_is)
    (case k23 => k_is)
    (case a24 => k_is)
    (case l24 => k_is)
    (case c24 => k_is)
    (case k24 => k_is)
    (case a25 => k_is)
    (case l25 => k_is)
    (case c25 => k_is)
    (case k25 => k_is)
    (case a_AF => k_is)
    (case a_AF___init__ => k_is)
    (case l_AF___init__ => k_is)
    (case c_AF___init__ => k_is)
    (case k_AF___init__ => k_is)
    (case i_AF___init__ => k_is)
    (case a_AF___str__ => k_is)
    (case l_AF___str__ => k_is)
    (case c_AF___str__ => k_is)
    (case k_AF___str__ => k_is)
    (case i_AF___str__ => k_is)
    (case mk_AF => k_is)
    (case pg_AF => k_is)
    (case hd_AF => k_is)
    (case po_AF => k_is)
    (case sa_AF => k_is)
    (case kc_AF => k_is)
    (case ya_AF => k_is)
    (case yb => k_is)
    (case yc => k_is)
    (case yd_AF => k_is)
    (case yk_AF => kernel_rfl)
    (case n_AF_size => k_is)
    (case n_AF_modulus => k_is)
    (case n_AF_parts => k_is)
    (case a_AD => k_is)
    (case a_AD___init__ => k_is)
    (case l_AD___init__ => k_is)
    (case c_AD___init__ => k_is)
    (case k_AD___init__ => k_is)
    (case i_AD___init__ => k_is)
    (case a_AD___str__ => k_is)
    (case l_AD___str__ => k_is)
    (case c_AD___str__ => k_is)
    (case k_AD___str__ => k_is)
    (case i_AD___str__ => k_is)
    (case mk_AD => k_is)
    (case pg_AD => k_is)
    (case hd_AD => k_is)
    (case po_AD => k_is)
    (case sa_AD => k_is)
    (case kc_AD => k_is)
    (case ya_AD => k_is)
    (case yd_AD => k_is)
    (case yk_AD => kernel_rfl)
    (case n_AD_x => k_is)
    (case n_AD_y => k_is)
    (case n_AD_w => k_is)
    (case n_AD_modulus => k_is)
    (case n_AD_parts => k_is)
    (case a_AL => k_is)
    (case a_AL___init__ => k_is)
    (case l_AL___init__ => k_is)
    (case c_AL___init__ => k_is)
    (case k_AL___init__ => k_is)
    (case i_AL___init__ => k_is)
    (case a_AL___str__ => k_is)
    (case l_AL___str__ => k_is)
    (case c_AL___str__ => k_is)
    (case k_AL___str__ => k_is)
    (case i_AL___str__ => k_is)
    (case mk_AL => k_is)
    (case pg_AL => k_is)
    (case hd_AL => k_is)
    (case po_AL => k_is)
    (case sa_AL => k_is)
    (case kc_AL => k_is)
    (case ya_AL => k_is)
    (case yd_AL => k_is)
    (case yk_AL => kernel_rfl)
    (case n_AL_one => k_is)
    (case n_AL_other => k_is)
    (case n_AL_modulus => k_is)
    (case n_AL_parts => k_is)
    (case a_AG => k_is)
    (case a_AG___init__ => k_is)
    (case l_AG___init__ => k_is)
    (case c_AG___init__ => k_is)
    (case k_AG___init__ => k_is)
    (case i_AG___init__ => k_is)
    (case a_AG___str__ => k_is)
    (case l_AG___str__ => k_is)
    (case c_AG___str__ => k_is)
    (case k_AG___str__ => k_is)
    (case i_AG___str__ => k_is)
    (case mk_AG => k_is)
    (case pg_AG => k_is)
    (case hd_AG => k_is)
    (case po_AG => k_is)
    (case sa_AG => k_is)
    (case kc_AG => k_is)
    (case ya_AG => k_is)
    (case yd_AG => k_is)
    (case yk_AG => kernel_rfl)
    (case n_AG_one => k_is)
    (case n_AG_other => k_is)
    (case n_AG_modulus => k_is)
    (case n_AG_parts => k_is)
    (case a_CR0 => k_is)
    (case sr_CR0 => k_is)
    (case sg_CR0 => k_is)
    (case sf_CR0_read => k_is)
    (case sc_CR0_read => k_is)
    (case l_CR0_read => k_is)
    (case c_CR0_read => k_is)
    (case k_CR0_read => k_is)
    (case a_CL => k_is)
    (case a_lcm => k_is)
    (case aZS => k_is)
    (case iZS => k_is)
    (case tZS => k_is)
    (case lZS => k_is)
    (case cZS => k_is)
    (case eZS => exact ⟨_, _, _, _, _, _, _, _, _, _, _, _, _, _, _, by k_is, by decide +kernel⟩)
    (case sZS => k_is)
    (case xZS => k_is)
    (case yZS => k_is)
    (case kZS => k_is)
    (case qZS => k_is)
    (case uZS => k_is)
    (case vZS => rfl)
    (case wZS => first | rfl | decide +kernel)
    (case mZS => k_is)
    (case pZS => first | k_is | kernel_rfl)
    (case bZS => k_is)
    (case zS => k_is)
    (case tS => first | rfl | decide +kernel | kernel_rfl)
    (case oB => k_is)
    (case nZS_value => k_is)
    (case gZS => k_is)
    (case hZS => k_is)
    (case dZS => k_is)
    (case jZS => k_is)
    (case rZS => k_is)
    (case k1ZS => kernel_rfl)
    (case emZS => kernel_rfl)
    (case aZR => k_is)
    (case iZR => k_is)
    (case tZR => k_is)
    (case lZR => k_is)
    (case cZR => k_is)
    (case eZR => exact ⟨_, _, _, _, _, _, _, _, _, _, _, _, _, _, _, by k_is, by decide +kernel⟩)
    (case sZR => k_is)
    (case xZR => k_is)
    (case yZR => k_is)
    (case kZR => k_is)
    (case qZR => k_is)
    (case uZR => k_is)
    (case vZR => rfl)
    (case wZR => first | rfl | decide +kernel)
    (case mZR => k_is)
    (case pZR => first | k_is | kernel_rfl)
    (case bZR => k_is)
    (case nZR_part => k_is)
    (case gZR => k_is)
    (case hZR => k_is)
    (case dZR => k_is)
    (case jZR => k_is)
    (case rZR => k_is)
    (case k1ZR => kernel_rfl)
    (case emZR => kernel_rfl)
    (case aZM => k_is)
    (case iZM => k_is)
    (case tZM => k_is)
    (case lZM => k_is)
    (case cZM => k_is)
    (case eZM => exact ⟨_, _, _, _, _, _, _, _, _, _, _, _, _, _, _, by k_is, by decide +kernel⟩)
    (case sZM => k_is)
    (case xZM => k_is)
    (case yZM => k_is)
    (case kZM => k_is)
    (case qZM => k_is)
    (case uZM => k_is)
    (case vZM => rfl)
    (case wZM => first | rfl | decide +kernel)
    (case mZM => k_is)
    (case pZM => first | k_is | kernel_rfl)
    (case bZM => k_is)
    (case nZM_what => k_is)
    (case nZM_most => k_is)
    (case gZM => k_is)
    (case hZM => k_is)
    (case dZM => k_is)
    (case jZM => k_is)
    (case rZM => k_is)
    (case k1ZM => kernel_rfl)
    (case emZM => kernel_rfl)
    (case aZE => k_is)
    (case iZE => k_is)
    (case tZE => k_is)
    (case lZE => k_is)
    (case cZE => k_is)
    (case eZE => exact ⟨_, _, _, _, _, _, _, _, _, _, _, _, _, _, _, by k_is, by decide +kernel⟩)
    (case sZE => k_is)
    (case xZE => k_is)
    (case yZE => k_is)
    (case kZE => k_is)
    (case qZE => k_is)
    (case uZE => k_is)
    (case vZE => rfl)
    (case wZE => first | rfl | decide +kernel)
    (case mZE => k_is)
    (case pZE => first | k_is | kernel_rfl)
    (case bZE => k_is)
    (case nZE_value => k_is)
    (case gZE => k_is)
    (case hZE => k_is)
    (case dZE => k_is)
    (case jZE => k_is)
    (case rZE => k_is)
    (case k1ZE => kernel_rfl)
    (case emZE => kernel_rfl)
    (case aZT => k_is)
    (case iZT => k_is)
    (case tZT => k_is)
    (case lZT => k_is)
    (case cZT => k_is)
    (case eZT => exact ⟨_, _, _, _, _, _, _, _, _, _, _, _, _, _, _, by k_is, by decide +kernel⟩)
    (case sZT => k_is)
    (case xZT => k_is)
    (case yZT => k_is)
    (case kZT => k_is)
    (case qZT => k_is)
    (case uZT => k_is)
    (case vZT => rfl)
    (case wZT => first | rfl | decide +kernel)
    (case mZT => k_is)
    (case pZT => first | k_is | kernel_rfl)
    (case bZT => k_is)
    (case nZT_value => k_is)
    (case gZT => k_is)
    (case hZT => k_is)
    (case dZT => k_is)
    (case jZT => k_is)
    (case rZT => k_is)
    (case k1ZT => kernel_rfl)
    (case emZT => kernel_rfl)
    (case aZW => k_is)
    (case iZW => k_is)
    (case tZW => k_is)
    (case lZW => k_is)
    (case cZW => k_is)
    (case eZW => exact ⟨_, _, _, _, _, _, _, _, _, _, _, _, _, _, _, by k_is, by decide +kernel⟩)
    (case sZW => k_is)
    (case xZW => k_is)
    (case yZW => k_is)
    (case kZW => k_is)
    (case qZW => k_is)
    (case uZW => k_is)
    (case vZW => rfl)
    (case wZW => first | rfl | decide +kernel)
    (case mZW => k_is)
    (case pZW => first | k_is | kernel_rfl)
    (case bZW => k_is)
    (case nZW_line => k_is)
    (case nZW_word => k_is)
    (case gZW => k_is)
    (case hZW => k_is)
    (case dZW => k_is)
    (case jZW => k_is)
    (case rZW => k_is)
    (case k1ZW => kernel_rfl)
    (case emZW => kernel_rfl)
    (case kJ_AF => kernel_rfl)
    (case kJ_AD => kernel_rfl)
    (case kJ_AL => kernel_rfl)
    (case kJ_AG => kernel_rfl)
    (case kTJ => kernel_rfl)
    (case kE_AFAF => kernel_rfl)
    (case kE_AFAD => kernel_rfl)
    (case kE_AFAL => kernel_rfl)
    (case kE_AFAG => kernel_rfl)
    (case kE_ADAF => kernel_rfl)
    (case kE_ADAD => kernel_rfl)
    (case kE_ADAL => kernel_rfl)
    (case kE_ADAG => kernel_rfl)
    (case kE_ALAF => kernel_rfl)
    (case kE_ALAD => kernel_rfl)
    (case kE_ALAL => kernel_rfl)
    (case kE_ALAG => kernel_rfl)
    (case kE_AGAF => kernel_rfl)
    (case kE_AGAD => kernel_rfl)
    (case kE_AGAL => kernel_rfl)
    (case kE_AGAG => kernel_rfl)
    (case kTE_AF => kernel_rfl)
    (case kR_AF => kernel_rfl)
    (case kTE_AD => kernel_rfl)
    (case kR_AD => kernel_rfl)
    (case kTE_AL => kernel_rfl)
    (case kR_AL => kernel_rfl)
    (case kTE_AG => kernel_rfl)
    (case kR_AG => kernel_rfl)
    (case gMS => k_is)
    (case gMD => k_is)
    (case gMA => k_is)
    (case gMP => k_is)
    (case gMR => k_is)
    (case k6CSCR => kernel_rfl)
    (case k6CECR => kernel_rfl)
    (case k6CECS => kernel_rfl)
    (case k6CTCR => kernel_rfl)
    (case k6CTCS => kernel_rfl)
    (case k6CTCE => kernel_rfl)
    (case k6CWCR => kernel_rfl)
    (case k6CWCS => kernel_rfl)
    (case k6CWCE => kernel_rfl)
    (case k6CWCT => kernel_rfl)
    (case k6CMCR => kernel_rfl)
    (case k6CMCS => kernel_rfl)
    (case k6CMCE => kernel_rfl)
    (case k6CMCT => kernel_rfl)
    (case k6CMCW => kernel_rfl)
    (case digs => k_is)
    (case gMF => k_is)
    (case fm_AF => first | k_is | kernel_rfl)
    (case fm_AD => first | k_is | kernel_rfl)
    (case fm_AL => first | k_is | kernel_rfl)
    (case fm_AG => first | k_is | kernel_rfl)
    (case kFS => kernel_rfl)
    (case z_isinstance => k_is)
    (case z_int => k_is)
    (case z_bool => k_is)
    (case z_len => k_is)
    (case z_abs => k_is)
    (case z_list => k_is)
    (case z_tuple => k_is)
    (case z_range => k_is)
    (case z_repr => k_is)
    (case z_str => k_is)
    (case z_min => k_is)
    (case z_max => k_is)
    (case z_all => k_is)
    (case z_enumerate => k_is)
    (case hCPt => kernel_rfl)
    (case nPPt => kernel_rfl)
    (case hCPt1 => kernel_rfl)
    (case nPPt1 => kernel_rfl)
    (case tPPt => first | exact PySem.W.km_tabs_of Y _ (by k_mem) | (trace_state; exact PySem.W.km_tabs_of Y _ (by k_mem)))
    (case tPPt1 => first | exact PySem.W.km_tabs_of Y _ (by k_mem) | (trace_state; exact PySem.W.km_tabs_of Y _ (by k_mem)))
    (case hPd0 => decide)
end
section
namespace L3
open PySem PySem.Spec PyProof.Rows L2 LamX
namespace KX
variable {X : Cx} {K : PySem.W.Frag} (hK : X.K = K)
include hK
theorem isiX : CallR X (.builtin "isinstance") (rIsiX K) := by subst hK; exact callIsiX
theorem xfV {e : Expr} {te : TE} {pos : Pos} {n : Str} (he : PE X e te) (hb : attributeBase e n X.env (eval e X.env) = eval e X.env) : PE X (.Attribute e n pos) (tXfV K n te) := by subst hK; exact pe_xfV he hb
theorem tup {es : List Expr} {k : Nat} {t : TGs} {n : Nat} {pos : Pos} (hc : X.calm = true) (h : PGs X es t)
    (hn : (assignEach es X.env).length = n := by rfl) (hst : (assignEach es X.env).findIdx? (·.1) = none := by rfl) : PG X (.Tuple es k pos) (gTup K n t) := by subst hK; exact pg_tup hc h hn hst
end KX
section
variable {K : PySem.W.Frag} {σ : L2.St} {H : Hp} {Q : VK} {D : Ends} {C : Addr} {o u : Int} {te ta : TE}
theorem s_par3 {i j l : Nat} {tt : TA} (h : tt σ H fun vs H1 => ∃ u v w, vs = [u, v, w] ∧ D.nx (((σ.set i (some u)).set j (some v)).set l (some w)) H1) : tPar3 i j l tt D σ H := h
theorem s_trip {R : V → V → V → Prop} {x y z : V} (h : R x y z) : ∃ u v w, [x, y, z] = [u, v, w] ∧ R u v w := ⟨x, y, z, rfl, h⟩
theorem s_aug {i : Nat} {ti : TIp} {x : V} (e : σ[i]? = some (some x)) (h : te σ H fun y H1 => ti x y H1 fun z H2 => D.nx (σ.set i (some z)) H2) : tAug i te ti D σ H := ⟨x, e, h⟩
theorem s_asgT' {n : Nat} {tg : TGs} (h : te σ H fun x H1 => gTup K n tg x σ H1 D.nx) : tAsg te (gTup K n tg) D σ H := h
theorem s_gT {a : Addr} {xs : List V} {n : Nat} {tg : TGs} {R : L2.St → Hp → Prop} (e : H a = some (.tup xs)) (hn : xs.length = n) (h : tg xs σ H R) : gTup K n tg (.ref a) σ H R := ⟨a, xs, rfl, .inl (.inl e), hn, h⟩
theorem s_gC {i : Nat} {v : V} {r : List V} {tg : TGs} {R : L2.St → Hp → Prop} (h : tg r (σ.set i (some v)) H R) : gCons (gName i) tg (v :: r) σ H R := ⟨v, r, rfl, h⟩
theorem s_gN {R : L2.St → Hp → Prop} (h : R σ H) : gNil [] σ H R := ⟨rfl, h⟩
theorem s_fldG {f : Str} (h : ta σ H fun x H1 => ∃ a C dx fs v, x = .ref a ∧ H1 a = some (.ins C dx fs) ∧ Cls K C ∧ NoAttr K C f ∧ fs.lookup f = some v ∧ Q v H1) : tFld K ta f σ H Q := h
theorem s_xfV {n : Str} (h : te σ H fun x H1 => ∃ (a C d : Addr) (fs : List (Str × V)) (v : V), x = .ref a ∧ H1 a = some (ExV a (.ref C) (some d)) ∧ H1 d = some (.xd fs) ∧ XfC K C ∧ PySem.W.findIn K (.ref C) n = some none ∧ fs.lookup n = some v ∧ Q v H1) : tXfV K n te σ H Q := h
/-- a def's data stay -/
theorem Dp.exN {H' : Hp} (e : ExtN H H') : ∀ (d : PyData) (v : V), (∀ a xs, SqL K H a xs → SqL K H' a xs) → (∀ a xs, SqT K H a xs → SqT K H' a xs) → Dp K H v d → Dp K H' v d := by
  intro d v h1 h2 h
  induction h using Dp.rec (motive_2 := fun vs ds _ => DpAll K H' vs ds) with
  | non => exact .non
  | bl b => exact .bl b
  | int i => exact .int i
  | str z => exact .str z
  | lst a _ b => exact .lst (h1 _ _ a) b
  | tup a _ b => exact .tup (h2 _ _ a) b
  | nil => exact .nil
  | cons _ _ a b => exact .cons a b
theorem penO_tbl {a c : Addr} {n : Nat} : ∀ ps, PenO a c n ≠ .tbl ps := fun _ z => by unfold PenO at z; cases z
theorem scO_tbl {c : Addr} {ns : List Int} : ∀ ps, ScO c ns ≠ .tbl ps := fun _ z => by unfold ScO at z; cases z
theorem Pen.exN {H' : Hp} {a : Addr} {n : Nat} (p : Pen H a n) (e : ExtN H H') : Pen H' a n := by
  obtain ⟨c, ns, h1, h2, h3⟩ := p
  exact ⟨c, ns, e _ _ h1 penO_tbl, e _ _ h2 scO_tbl, h3⟩
theorem Pen.ex {H' : Hp} {a : Addr} {n : Nat} (p : Pen H a n) (e : Ex H H') : Pen H' a n := Pen.exN p e.n
theorem Pen.at {a : Addr} {n : Nat} (p : Pen H a n) : ∃ c, H a = some (PenO a c n) := by
  obtain ⟨c, ns, h1, _⟩ := p
  exact ⟨c, h1⟩
theorem Wo.exN {T : List (Addr × Str)} {H' : Hp} {a : Addr} {n : Nat} (w : Wo T H a n) (e : ExtN H H') (t : Tabs T H') : Wo T H' a n := ⟨Pen.exN w.pen e, t⟩
/-- a tuple of two ints -/
def Pr (H : Hp) (v : V) (a b : Int) : Prop := ∃ p, v = .ref p ∧ H p = some (.tup [.int a, .int b])
theorem Pr.exN {H' : Hp} {v : V} {a b : Int} (h : Pr H v a b) (e : ExtN H H') : Pr H' v a b := by
  obtain ⟨p, rfl, h⟩ := h
  exact ⟨p, rfl, e _ _ h fun _ z => nomatch z⟩
theorem Pr.ex {H' : Hp} {v : V} {a b : Int} (h : Pr H v a b) (e : Ex H H') : Pr H' v a b := h.exN e.n
theorem Pr.dp {v : V} {a b : Int} (h : Pr H v a b) : Dp K H v (.tuple [.int a, .int b]) := by
  obtain ⟨p, rfl, h⟩ := h
  exact .tup (.inl (.inl h)) (.cons (.int a) (.cons (.int b) .nil))
end
end L3
end
section
namespace L3
open PySem PySem.Spec PyProof.Rows L2 LamX
section
variable {K : PySem.W.Frag} {σ : L2.St} {H H' : Hp} {Q : VK} {C CB : Addr}
inductive Prs (H : Hp) : List V → List (Int × Int) → Prop
  | nil : Prs H [] []
  | cons {v : V} {vs : List V} {q : Int × Int} {qs : List (Int × Int)} : Pr H v q.1 q.2 → Prs H vs qs → Prs H (v :: vs) (q :: qs)
theorem Prs.exN {vs : List V} {qs : List (Int × Int)} (h : Prs H vs qs) (e : ExtN H H') : Prs H' vs qs := by
  induction h with
  | nil => exact .nil
  | cons a _ b => exact .cons (a.exN e) b
theorem Prs.ex {vs : List V} {qs : List (Int × Int)} (h : Prs H vs qs) (e : Ex H H') : Prs H' vs qs := h.exN e.n
theorem Pr.up {v : V} {a b : Int} {D : Addr} {xs zs : List V} (h : Pr H v a b) (hd : H D = some (.lst xs)) : Pr (upd H D (.lst zs)) v a b := by
  obtain ⟨p, rfl, h⟩ := h
  refine ⟨p, rfl, ?_⟩
  rw [upd_ne (ne_of h hd (by intro z; cases z))]
  exact h
theorem Prs.up {vs : List V} {qs : List (Int × Int)} {D : Addr} {xs zs : List V} (h : Prs H vs qs) (hd : H D = some (.lst xs)) : Prs (upd H D (.lst zs)) vs qs := by
  induction h with
  | nil => exact .nil
  | cons a _ b => exact .cons (a.up hd) b
theorem Prs.get {vs : List V} {qs : List (Int × Int)} (h : Prs H vs qs) : ∀ {i : Nat} {x : V}, vs[i]? = some x → ∃ q, qs[i]? = some q ∧ Pr H x q.1 q.2 := by
  induction h with
  | nil => intro i x e; simp at e
  | cons a _ b =>
    intro i x e
    cases i with
    | zero => cases e; exact ⟨_, rfl, a⟩
    | succ i => exact b (by simpa using e)
theorem Prs.length {vs : List V} {qs : List (Int × Int)} (h : Prs H vs qs) : vs.length = qs.length := by
  induction h with
  | nil => rfl
  | cons _ _ b => simp [b]
theorem Prs.snoc {vs : List V} {qs : List (Int × Int)} {v : V} {q : Int × Int} (h : Prs H vs qs) (a : Pr H v q.1 q.2) : Prs H (vs ++ [v]) (qs ++ [q]) := by
  induction h with
  | nil => exact .cons a .nil
  | cons b _ c => exact .cons b c
def prD (qs : List (Int × Int)) : List PyData := qs.map fun q => .tuple [.int q.1, .int q.2]
theorem Prs.dp {vs : List V} {qs : List (Int × Int)} (h : Prs H vs qs) : DpAll K H vs (prD qs) := by
  induction h with
  | nil => exact .nil
  | cons a _ b => exact .cons a.dp b
theorem s_lcL {te ta : TE} {g : TG} {tt : TT} {vs : List Nat} (h : ta σ H fun x H1 => ∃ a, x = .ref a ∧ (∃ xs, SqL K H1 a xs) ∧ LC (Itl K a) g tt te vs σ H1 Q) : tLc (iList K ta) g tt te vs σ H Q := h
/-- so far heard: the list l of equal pairs; the fraction m, the other value v with its text tx; the pen -/
structure Sx (Tt : List (Addr × Str)) (C l m p : Addr) (n : Nat) (o u : Int) (v : V) (tx : Str) (H : Hp) (xs : List V) : Prop where
  lst : H l = some (.lst xs)
  els : ∀ x ∈ xs, ∃ r, x = .ref r ∧ H r = some (.tup [.str "ratio", .str tx])
  rt : Rt C H m o u
  od : Od H v tx
  ne : v ≠ .ref l
  wo : Wo Tt H p n
  few : xs.length ≤ 1000
theorem Sx.exN {Tt : List (Addr × Str)} {l m p : Addr} {n : Nat} {o u : Int} {v : V} {tx : Str} {xs : List V} (S : Sx Tt C l m p n o u v tx H xs) (e : ExtN H H') (t : Tabs Tt H') : Sx Tt C l m p n o u v tx H' xs := by
  refine ⟨e _ _ S.lst (fun _ z => nomatch z), fun x hx => ?_, S.rt.exN e, S.od.exN e, S.ne, S.wo.exN e t, S.few⟩
  obtain ⟨r, h1, h2⟩ := S.els x hx
  exact ⟨r, h1, e _ _ h2 fun _ z => nomatch z⟩
theorem Od.up {v : V} {tx : Str} {l : Addr} {o : HO} (h : Od H v tx) (hn : v ≠ .ref l) : Od (upd H l o) v tx := by
  cases h with
  | non => exact .non
  | bl b => exact .bl b
  | str z h1 h3 => exact .str z h1 h3
  | tup h1 h2 h3 => exact .tup (by rw [upd_ne (fun z => hn (by rw [z]))]; exact h1) h2 h3
  | lst h1 h2 h3 => exact .lst (by rw [upd_ne (fun z => hn (by rw [z]))]; exact h1) h2 h3
  | dic h1 => exact .dic (by rw [upd_ne (fun z => hn (by rw [z]))]; exact h1)
theorem Od.keep {p : Addr} {v : V} {tx : Str} (h : Od H v tx) (hn : v ≠ .ref p) (k : ∀ b o, b ≠ p → H b = some o → H' b = some o) : Od H' v tx := by
  cases h with
  | non => exact .non
  | bl b => exact .bl b
  | str z h1 h3 => exact .str z h1 h3
  | tup h1 h2 h3 => exact .tup (k _ _ (fun z => hn (by rw [z])) h1) h2 h3
  | lst h1 h2 h3 => exact .lst (k _ _ (fun z => hn (by rw [z])) h1) h2 h3
  | dic h1 => exact .dic (k _ _ (fun z => hn (by rw [z])) h1)
theorem scO_lst {c : Addr} {ns : List Int} {xs : List V} : ScO c ns ≠ .lst xs := fun z => by unfold ScO at z; cases z
theorem penO_lst {a c : Addr} {n : Nat} {xs : List V} : PenO a c n ≠ .lst xs := fun z => by unfold PenO at z; cases z
theorem Wo.up {Tt : List (Addr × Str)} {p l : Addr} {n : Nat} {xs zs : List V} (w : Wo Tt H p n) (hl : H l = some (.lst xs)) : Wo Tt (upd H l (.lst zs)) p n := by
  obtain ⟨c, ns, h1, h2, h3⟩ := w.pen
  refine ⟨⟨c, ns, ?_, ?_, h3⟩, fun t ht => ?_⟩
  · rw [upd_ne (ne_of h1 hl penO_lst)]; exact h1
  · rw [upd_ne (ne_of h2 hl scO_lst)]; exact h2
  · obtain ⟨ps, g1, g2, g3⟩ := w.tabs t ht
    refine ⟨ps, by rw [upd_ne (ne_of g1 hl (by intro z; cases z))]; exact g1, g2, fun pos cv hc => ?_⟩
    obtain ⟨c, e1, e2⟩ := g3 pos cv hc
    exact ⟨c, e1, by rw [upd_ne (ne_of e2 hl (by intro z; unfold CodeO at z; cases z))]; exact e2⟩
theorem Sx.app {Tt : List (Addr × Str)} {l m p : Addr} {n : Nat} {o u : Int} {v : V} {tx : Str} {xs : List V} {r : Addr} (S : Sx Tt C l m p n o u v tx H xs) (h : H r = some (.tup [.str "ratio", .str tx])) (hf : xs.length < 1000) :
    Sx Tt C l m p n o u v tx (upd H l (.lst (xs ++ [.ref r]))) (xs ++ [.ref r]) := by
  have go : ∀ b zs, H b = some (.tup zs) → upd H l (.lst (xs ++ [.ref r])) b = some (.tup zs) := fun b zs e => by
    rw [upd_ne (ne_of e S.lst (by intro z; cases z))]; exact e
  refine ⟨upd_same, fun x hx => ?_, ?_, S.od.up S.ne, S.ne, S.wo.up S.lst, by simp; omega⟩
  · rcases List.mem_append.mp hx with hx | hx
    · obtain ⟨r', h1, h2⟩ := S.els x hx
      exact ⟨r', h1, go _ _ h2⟩
    · rw [List.mem_singleton.mp hx]
      exact ⟨r, rfl, go _ _ h⟩
  · obtain ⟨dx, e⟩ := S.rt
    exact ⟨dx, by rw [upd_ne (ne_of e S.lst (by intro z; cases z))]; exact e⟩
theorem Sx.dp {Tt : List (Addr × Str)} {l m p : Addr} {n : Nat} {o u : Int} {v : V} {tx : Str} : ∀ {xs : List V}, (∀ x ∈ xs, ∃ r, x = .ref r ∧ H r = some (.tup [.str "ratio", .str tx])) → DpAll K H xs (List.replicate xs.length (.tuple [.str "ratio", .str tx]))
  | [], _ => .nil
  | x :: r, h => by
    obtain ⟨q, rfl, hq⟩ := h x List.mem_cons_self
    exact .cons (.tup (.inl (.inl hq)) (.cons (.str _) (.cons (.str _) .nil))) (Sx.dp (Tt := Tt) (l := l) (m := m) (p := p) (n := n) (o := o) (u := u) (v := v) fun y hy => h y (List.mem_cons_of_mem _ hy))
end
end L3
end
section
namespace L3
open PySem PySem.Spec PySem.Calls PyProof.Rows PySem.W
section
variable {prog : Program} {w : World} {A : Around} {E : Value → Shared → Prop} {s : Shared} {K : Frag} {x C f : Addr} {ox : Obj} {od : Option Obj} {T id : String} {name : Str} {B : Builtin} {u : Value} {op : CmpOp}
/-- a value of a built-in type, as the machine has it -/
inductive LU (h : Heap) : Value → String → Prop
  | non : LU h .none "NoneType"
  | bl (b : Bool) : LU h (.bool b) "bool"
  | str (z : Str) (t : Tok) : LU h (.str z t) "str"
  | tup {l : Addr} {o : Obj} : h.get? l = some o → o.cls = .type "tuple" → LU h (.ref l) "tuple"
  | lst {l : Addr} {o : Obj} : h.get? l = some o → o.cls = .type "list" → LU h (.ref l) "list"
  | dic {l : Addr} {o : Obj} : h.get? l = some o → o.cls = .type "dict" → LU h (.ref l) "dict"
theorem LU.is (h : LU s.heap u T) : s.TypeIs u T := by
  cases h with
  | non => exact rfl
  | bl b => exact rfl
  | str z t => exact rfl
  | tup e c => exact ⟨_, e, c⟩
  | lst e c => exact ⟨_, e, c⟩
  | dic e c => exact ⟨_, e, c⟩
end
end L3
end
section
namespace L3
open PySem PySem.Spec PySem.Calls PyProof.Rows PySem.W
end L3
namespace L3
open PySem PySem.Spec PyProof.Rows L2 LamX
/-- what the written part says of the class, for its comparisons -/
structure CmpF (K : PySem.W.Frag) (C : Addr) : Prop where
  notF : (numTys.all fun T => PySem.W.notFirst K C (.type T)) = true
  notC : PySem.W.notFirst K C (.ref C) = true
  subs : (numTys.all fun T => decide (PySem.W.subIn K (.ref C) (.type T) = some false)) = true
  ob : PySem.W.mroIn K C (.type "object") = some true
  ne : PySem.W.findIn K (.ref C) "__ne__" = some (some (.builtin "object.__ne__"))
theorem CmpF.sub {K : PySem.W.Frag} {C : Addr} (F : CmpF K C) {T : String} (h : T ∈ numTys) : PySem.W.subIn K (.ref C) (.type T) = some false := of_decide_eq_true (List.all_eq_true.mp F.subs T h)
/-- a method of two parameters by its name -/
structure Me (P : Program) (w : World) (K : PySem.W.Frag) (mg : Str → Option Value) (base : Heap) (C : Addr) (m : Str) (k : Nat) (ps : List Str) (sp : Sp) : Prop where
  ex : ∃ (f : Addr) (fd : FuncData), PySem.W.findIn K (.ref C) m = some (some (.ref f)) ∧ PySem.W.isFn K (.ref f) = true ∧ FnOk P w K mg base (L2.CX P w) k f fd ps sp ∧ L2.Binds K fd ps []
end L3
end
section
namespace L3
open PySem PySem.Spec PyProof.Rows L2 LamX
section
variable {C CB : Addr} {H H' : Hp} {Q : VK} {x y : V} {o u o' u' : Int} {E : XK}
theorem Rz.ex {g : Str} {v : V} (h : Rz C g v H E) (e : Ex H H') : Rz C g v H' E := fun d H2 hd e2 hx => h d H2 (e.free hd) (e.trans e2) hx
end
end L3
end
section
namespace L3
open PySem PySem.Spec PyProof.Rows L2 LamX
def LamO (f : Addr) (env : Env) (params : Arguments) (body : Expr) (scope : Scope) (c' : Addr) : HO := .ext fun h => ∃ pm ctv, h.get? f = some (PySem.W.kla_obj "<lambda>" (env.qual ++ "<lambda>") params body scope (cloFrom env.cells scope.names []) pm c' ctv)
end L3
end
section
namespace L3
open PySem PySem.Spec PySem.Calls PyProof.Rows PySem.W
open PySem.MeetsSeq2
open PySem.AutoSeq1 (wpAny_loadPart')
end L3
namespace L3
open PySem PySem.Spec PyProof.Rows L2 LamX L2H
end L3
end
section
namespace L3
open PySem PySem.Spec PyProof.Rows L2 LamX ClX
structure StM (P : Program) (w : World) (K : PySem.W.Frag) (mg : Str → Option Value) (base : Heap) (CX : CXT) (k : Nat) (C : Addr) (m : Str) (ps : List Str) (sp : Sp) : Prop where
  ex : ∃ (mc : Value) (p g : Addr) (gd : FuncData) (rest : List Value), CRead K C mc ∧ PySem.W.findCls K (.ref C) mc m = some (.get (.builtin "staticmethod.__get__") (.ref p) .none (.ref C)) ∧ PySem.W.recIn K p "staticmethod" = some (.ref g :: rest) ∧ PySem.W.handedIn (.ref g) = true ∧
    PySem.W.keepIn K (.ref g) = true ∧ FnOk P w K mg base CX k g gd ps sp ∧ L2.Binds K gd ps [] ∧ ∀ (s : Shared) (ws : List Value), K.In s.heap → ws.length = ps.length → BindsTo s gd ⟨[], ps.zip ws⟩ (ps.zip ws)
def tSt (C : Addr) (sp : Sp) (E : XK) (ta : TE) (t : TA) : TE := fun σ H Q => ta σ H fun x H1 => x = .ref C ∧ t σ H1 fun vs H2 => sp vs H2 Q E
section
variable {X : Cx} {CX : CXT} {k j : Nat} {C : Addr} {sp : Sp} {E : XK} {o e : Expr} {es : List Expr} {m : Str} {ps : List Str} {pos apos : Pos} {ta : TE} {t : TA} {pl : Sem Bool}
theorem getst {pins : List (Addr × Obj)} {σ : L2.St} {H : Hp} {s : Shared} {A : Around} {E' : Value → Shared → Prop} {Q : Value × List Value → Shared → Prop} {mc : Value} {p g : Addr} {rest : List Value} (I : Inv X pins σ H s) (r : CRead X.K C mc) (h1 : PySem.W.findCls X.K (.ref C) mc m = some (.get (.builtin "staticmethod.__get__") (.ref p) .none (.ref C)))
    (h2 : PySem.W.recIn X.K p "staticmethod" = some (.ref g :: rest)) (h3 : PySem.W.handedIn (.ref g) = true) (h : ∀ s', Inv X pins σ H s' → Q (.ref g, []) s') : wpAny (model X.prog X.w) A (getMethod (.ref C) m pl) Q E' s :=
  PySem.W.method_cls I.kIn r.ga (PySem.W.cls_bind I.kIn r.rd h1 (wpAny_call (PySem.W.sm_get (s := { s with toks := s.toks + 1 }) I.kIn h2 (PySem.W.handed_on h3 (h _ (I.tok _))))))
theorem pe_st (c : StM X.prog X.w X.K X.mg X.base CX k C m ps sp) (hr : Room j X.A) (hx : Passes CX X E) (he : PE X o ta) (ha : PA X (e :: es) t) (hk : k ≤ j := by decide)
    (hst : starEach (e :: es) X.env = (false, eval e X.env) :: starEach es X.env := by rfl) (hpl : (backTo pos (starEach es X.env)).any (·.1) = false := by rfl)
    (ht : eval (.Call (.Attribute o m apos) (e :: es) [] pos) X.env = (do
      let ov ← eval o X.env
      standAt apos.atName
      let (f, first) ← holding [ov] (getMethod ov m pl)
      callWith pos f first (backTo pos (starEach (e :: es) X.env)) (backToKw pos (keywordEach [] X.env))) := by rfl) :
    PE X (.Call (.Attribute o m apos) (e :: es) [] pos) (tSt C sp E ta t) := by
  obtain ⟨mc, p, g, gd, rest, r, h1, h2, h3, kp, F, b, _⟩ := c.ex
  refine ⟨fun pins s σ H Q I h => ?_⟩
  refine PySem.W.methodCall_KW (pl := pl) (thn (he.run pins s σ H _ I h) fun u s1 hh => ?_) ht
  obtain ⟨x, H1, I1, rx, ex, q⟩ := hh
  subst ex
  obtain rfl : u = Value.ref C := rx
  refine getst I1 r h1 h2 h3 fun s2 I2 => ?_
  refine PySem.W.callWith_K (h₀ := X.base) (first := []) I2.ok.mod.kin kp (thn (ha.run pos pins s2 σ H1 _ I2 q) fun us s3 hh => ?_) hst hpl
  obtain ⟨vs, H2, I3, rv, q2⟩ := hh
  exact ⟨I3.kIn, run_fn F (hr.mono hk) b .nil hx I3 rv (by rw [List.append_nil]; exact q2)⟩
end
end L3
end
section
namespace L3
open PySem PySem.Spec PyProof.Rows L2 LamX L2H
end L3
end
section
namespace L3
open PySem PySem.Spec PyProof.Rows L2 LamX
section
variable {C CB : Addr} {H H' : Hp} {Q : VK} {E : XK}
/-- no integer: another value or a fraction -/
def OdR (C : Addr) (H : Hp) (x : V) : Prop := (∃ t, Od H x t) ∨ ∃ q o u, x = .ref q ∧ Rt C H q o u
theorem OdR.exN {x : V} (h : OdR C H x) (e : ExtN H H') : OdR C H' x := by
  rcases h with ⟨t, h⟩ | ⟨q, o, u, rfl, h⟩
  · exact .inl ⟨t, h.exN e⟩
  · exact .inr ⟨q, o, u, rfl, h.exN e⟩
end
end L3
end
section
namespace L3
open PySem PySem.Spec PyProof.Rows L2 LamX
namespace KX
variable {X : Cx} {K : PySem.W.Frag} (hK : X.K = K)
include hK
theorem isiTT : CallR X (.builtin "isinstance") (rIsiT K) := by subst hK; exact call_isiT
end KX
section
variable {K : PySem.W.Frag} {C CB : Addr} {H H' : Hp} {Q : VK} {E : XK}
theorem kit_lt {a : String} {b1 b2 : Bool} (h1 : kitB a "list" = some b1) (h2 : kitB a "tuple" = some b2) : PySem.W.kitAny K (.type a) [.type "list", .type "tuple"] = some (b1 || b2) := by
  have e1 := kit_ty (K := K) h1
  have e2 := kit_ty (K := K) h2
  unfold PySem.W.kitAny
  unfold PySem.W.kitAny
  unfold PySem.W.kitAny
  rw [e1, e2]
  cases b1 <;> cases b2 <;> rfl
theorem s_lenT {R : Nat → Prop} {p : Addr} {xs : List V} (hp : H p = some (.tup xs)) (h : R xs.length) : ∃ x n, [V.ref p] = [x] ∧ LenV K x H n ∧ R n := ⟨_, _, rfl, .inr ⟨xs, .inl (.inl hp), rfl⟩, h⟩
inductive Nms (C : Addr) (H : Hp) : List V → List (Int × Int) → Prop
  | nil : Nms C H [] []
  | cons {v : V} {vs : List V} {q : Int × Int} {qs : List (Int × Int)} : Nm C H v q.1 q.2 → Bd q.1 q.2 → Nms C H vs qs → Nms C H (v :: vs) (q :: qs)
theorem Nm.ex' {v : V} {o u : Int} (h : Nm C H v o u) (e : Ex H H') : Nm C H' v o u := by
  rcases h with ⟨q, rfl, r⟩ | h
  · exact .inl ⟨q, rfl, r.ex e⟩
  · exact .inr h
theorem Nms.ex {vs : List V} {qs : List (Int × Int)} (h : Nms C H vs qs) (e : Ex H H') : Nms C H' vs qs := by
  induction h with
  | nil => exact .nil
  | cons a b _ ih => exact .cons (a.ex' e) b ih
theorem Nms.length {vs : List V} {qs : List (Int × Int)} (h : Nms C H vs qs) : vs.length = qs.length := by
  induction h with
  | nil => rfl
  | cons _ _ _ b => simp [b]
theorem Nms.get {vs : List V} {qs : List (Int × Int)} (h : Nms C H vs qs) : ∀ {i : Nat} {x : V}, vs[i]? = some x → ∃ q, qs[i]? = some q ∧ Nm C H x q.1 q.2 ∧ Bd q.1 q.2 := by
  induction h with
  | nil => intro i x e; simp at e
  | cons a b _ ih =>
    intro i x e
    cases i with
    | zero => cases e; exact ⟨_, rfl, a, b⟩
    | succ i => exact ih (by simpa using e)
/-- no list, no tuple; or an empty one -/
inductive NoLT (H : Hp) : V → Prop
  | non : NoLT H .non
  | bl (b : Bool) : NoLT H (.bl b)
  | int (i : Int) : NoLT H (.int i)
  | str (z : Str) : NoLT H (.str z)
  | dic {p : Addr} {kvs : List (Key × V)} : H p = some (.dK kvs) → NoLT H (.ref p)
theorem NoLT.ty {v : V} (h : NoLT H v) : ∃ t, TyX K H v t ∧ PySem.W.kitAny K t [.type "list", .type "tuple"] = some false := by
  cases h with
  | non => exact ⟨_, .base .non, kit_lt (b1 := false) (b2 := false) (by decide +kernel) (by decide +kernel)⟩
  | bl b => exact ⟨_, .base (.bl b), kit_lt (b1 := false) (b2 := false) (by decide +kernel) (by decide +kernel)⟩
  | int b => exact ⟨_, .base (.int b), kit_lt (b1 := false) (b2 := false) (by decide +kernel) (by decide +kernel)⟩
  | str b => exact ⟨_, .base (.str b), kit_lt (b1 := false) (b2 := false) (by decide +kernel) (by decide +kernel)⟩
  | dic h => exact ⟨_, .base (.dK h), kit_lt (b1 := false) (b2 := false) (by decide +kernel) (by decide +kernel)⟩
theorem NoLT.ex {v : V} (h : NoLT H v) (e : Ex H H') : NoLT H' v := by
  cases h with
  | non => exact .non
  | bl b => exact .bl b
  | int b => exact .int b
  | str b => exact .str b
  | dic h => exact .dic (e _ _ h)
variable {g : TG} {tb : TS} {D : Ends} {σ : L2.St} {tl : TE}
def ForL (K : PySem.W.Frag) (a : Addr) (g : TG) (tb : TS) (D : Ends) (σ : L2.St) (H : Hp) : Prop := ∃ W : Nat → Nat → L2.St → Hp → Prop, (∃ m, W 0 m σ H) ∧ ∀ (i m : Nat) (σ : L2.St) (H : Hp), W i m σ H → (Itl K a).stop i H ∧ D.nx σ H ∨ (Itl K a).go i H ∧
  ∃ N, (∀ (σ' : L2.St) (H' : Hp), N σ' H' → ∃ m', m' < m ∧ W (i + 1) m' σ' H') ∧ ∀ (x : V) (H' : Hp), (Itl K a).yld i H x H' → g x σ H' fun σ2 H2 => tb { nx := N, rt := D.rt, bk := D.nx, ct := N } σ2 H2
def ForT (K : PySem.W.Frag) (a : Addr) (g : TG) (tb : TS) (D : Ends) (σ : L2.St) (H : Hp) : Prop := ∃ W : Nat → Nat → L2.St → Hp → Prop, (∃ m, W 0 m σ H) ∧ ∀ (i m : Nat) (σ : L2.St) (H : Hp), W i m σ H → (Itt K a).stop i H ∧ D.nx σ H ∨ (Itt K a).go i H ∧
  ∃ N, (∀ (σ' : L2.St) (H' : Hp), N σ' H' → ∃ m', m' < m ∧ W (i + 1) m' σ' H') ∧ ∀ (x : V) (H' : Hp), (Itt K a).yld i H x H' → g x σ H' fun σ2 H2 => tb { nx := N, rt := D.rt, bk := D.nx, ct := N } σ2 H2
theorem s_forL (h : tl σ H fun x H1 => ∃ a, x = .ref a ∧ (∃ xs, SqL K H1 a xs) ∧ ForL K a g tb D σ H1) : tFor (iList K tl) g tb D σ H := h
theorem s_forT (h : tl σ H fun x H1 => ∃ a, x = .ref a ∧ (∃ xs, SqT K H1 a xs) ∧ ForT K a g tb D σ H1) : tFor (iTup K tl) g tb D σ H := h
theorem s_gNm {i : Nat} {v : V} {R : L2.St → Hp → Prop} (h : R (σ.set i (some v)) H) : gName i v σ H R := h
end
end L3
end
section
namespace L3
open PySem PySem.Spec PyProof.Rows L2 LamX
end L3
end
section
namespace L3
open PySem PySem.Spec PyProof.Rows L2 LamX
section
variable {K : PySem.W.Frag} {σ : L2.St} {H H' : Hp} {Q : VK} {C CB : Addr}
inductive Vl (H : Hp) : V → Str → Prop
  | od {v : V} {t : Str} : Od H v t → Vl H v t
  | int (i : Int) : i.natAbs.log2 < 1920 → (PyData.int i).shown.length ≤ 1001 → Vl H (.int i) (PyData.int i).shown
  | d12 {p : Addr} : H p = some (.dK [(.inl 1, .int 2)]) → Vl H (.ref p) (PyData.dict [(.int 1, .int 2)]).shown
theorem Vl.exN {v : V} {t : Str} (h : Vl H v t) (e : ExtN H H') : Vl H' v t := by
  cases h with
  | od h => exact .od (h.exN e)
  | int i h2 h3 => exact .int i h2 h3
  | d12 h => exact .d12 (e _ _ h fun _ z => nomatch z)
theorem Vl.ex {v : V} {t : Str} (h : Vl H v t) (e : Ex H H') : Vl H' v t := h.exN e.n
theorem Vl.up {v : V} {t : Str} {l : Addr} {o : HO} (h : Vl H v t) (hn : v ≠ .ref l) : Vl (upd H l o) v t := by
  cases h with
  | od h => exact .od (h.up hn)
  | int i h2 h3 => exact .int i h2 h3
  | d12 h => exact .d12 (by rw [upd_ne (fun z => hn (by rw [z]))]; exact h)
theorem Vl.keep {p : Addr} {v : V} {t : Str} (h : Vl H v t) (hn : v ≠ .ref p) (k : ∀ b o, b ≠ p → H b = some o → H' b = some o) : Vl H' v t := by
  cases h with
  | od h => exact .od (h.keep hn k)
  | int i h2 h3 => exact .int i h2 h3
  | d12 h => exact .d12 (k _ _ (fun z => hn (by rw [z])) h)
/-- the heard pairs -/
inductive Hrd (H : Hp) : List V → List Str → Prop
  | nil : Hrd H [] []
  | cons {r : Addr} {vs : List V} {t : Str} {ts : List Str} : H r = some (.tup [.str "ratio", .str t]) → Hrd H vs ts → Hrd H (.ref r :: vs) (t :: ts)
theorem Hrd.exN {vs : List V} {ts : List Str} (h : Hrd H vs ts) (e : ExtN H H') : Hrd H' vs ts := by
  induction h with
  | nil => exact .nil
  | cons a _ b => exact .cons (e _ _ a fun _ z => nomatch z) b
theorem Hrd.up {vs : List V} {ts : List Str} {l : Addr} {xs zs : List V} (h : Hrd H vs ts) (hl : H l = some (.lst xs)) : Hrd (upd H l (.lst zs)) vs ts := by
  induction h with
  | nil => exact .nil
  | cons a _ b => exact .cons (by rw [upd_ne (ne_of a hl (by intro z; cases z))]; exact a) b
theorem Hrd.snoc {vs : List V} {ts : List Str} {r : Addr} {t : Str} (h : Hrd H vs ts) (a : H r = some (.tup [.str "ratio", .str t])) : Hrd H (vs ++ [.ref r]) (ts ++ [t]) := by
  induction h with
  | nil => exact .cons a .nil
  | cons b _ c => exact .cons b c
theorem Hrd.length {vs : List V} {ts : List Str} (h : Hrd H vs ts) : vs.length = ts.length := by
  induction h with
  | nil => rfl
  | cons _ _ b => simp [b]
def hrD (ts : List Str) : List PyData := ts.map fun t => .tuple [.str "ratio", .str t]
theorem Hrd.dp {vs : List V} {ts : List Str} (h : Hrd H vs ts) : DpAll K H vs (hrD ts) := by
  induction h with
  | nil => exact .nil
  | cons a _ b => exact .cons (.tup (.inl (.inl a)) (.cons (.str _) (.cons (.str _) .nil))) b
/-- so far heard: the list l; what is known of some values; the pen -/
structure Sy (Tt : List (Addr × Str)) (l p : Addr) (n : Nat) (Pv : Hp → Prop) (H : Hp) (xs : List V) (ts : List Str) : Prop where
  lst : H l = some (.lst xs)
  els : Hrd H xs ts
  pv : Pv H
  wo : Wo Tt H p n
  few : xs.length ≤ 1000
structure Clo (l : Addr) (Pv : Hp → Prop) : Prop where
  ext : ∀ H H', Pv H → ExtN H H' → Pv H'
  upd : ∀ H zs, Pv H → Pv (upd H l (.lst zs))
theorem Sy.exN {Tt : List (Addr × Str)} {l p : Addr} {n : Nat} {Pv : Hp → Prop} {xs : List V} {ts : List Str} (S : Sy Tt l p n Pv H xs ts) (c : Clo l Pv) (e : ExtN H H') (t : Tabs Tt H') : Sy Tt l p n Pv H' xs ts :=
  ⟨e _ _ S.lst (fun _ z => nomatch z), S.els.exN e, c.ext _ _ S.pv e, S.wo.exN e t, S.few⟩
theorem Sy.app {Tt : List (Addr × Str)} {l p : Addr} {n : Nat} {Pv : Hp → Prop} {xs : List V} {ts : List Str} {r : Addr} {tx : Str} (S : Sy Tt l p n Pv H xs ts) (c : Clo l Pv) (h : H r = some (.tup [.str "ratio", .str tx])) (hf : xs.length < 1000) :
    Sy Tt l p n Pv (upd H l (.lst (xs ++ [.ref r]))) (xs ++ [.ref r]) (ts ++ [tx]) :=
  ⟨upd_same, (S.els.up S.lst).snoc (by rw [upd_ne (ne_of h S.lst (by intro z; cases z))]; exact h), c.upd _ _ S.pv, S.wo.up S.lst, by simp; omega⟩
/-- no list or tuple of numbers -/
def Lt (H : Hp) (v : V) : Prop := NoLT H v ∨ ∃ a, v = .ref a ∧ (H a = some (.lst []) ∨ H a = some (.tup []))
theorem Lt.map {v : V} {G : Hp} (h : Lt H v) (f : ∀ a o, v = .ref a → H a = some o → (∀ ps, o ≠ .tbl ps) → G a = some o) : Lt G v := by
  rcases h with h | ⟨a, rfl, h⟩
  · cases h with
    | non => exact .inl .non
    | bl b => exact .inl (.bl b)
    | int i => exact .inl (.int i)
    | str z => exact .inl (.str z)
    | dic h => exact .inl (.dic (f _ _ rfl h fun _ z => nomatch z))
  · exact .inr ⟨a, rfl, h.imp (fun h => f _ _ rfl h fun _ z => nomatch z) (fun h => f _ _ rfl h fun _ z => nomatch z)⟩
theorem Lt.exN {v : V} (h : Lt H v) (e : ExtN H H') : Lt H' v := h.map fun a o _ h n => e a o h n
theorem Lt.up {v : V} {l : Addr} {o : HO} (h : Lt H v) (hn : v ≠ .ref l) : Lt (upd H l o) v := h.map fun a o e h _ => by rw [upd_ne (fun z => hn (by rw [e, z]))]; exact h
theorem Lt.keep {p : Addr} {v : V} (h : Lt H v) (hn : v ≠ .ref p) (k : ∀ b o, b ≠ p → H b = some o → H' b = some o) : Lt H' v := h.map fun a o e h _ => k a o (fun z => hn (by rw [e, z])) h
end
end L3
end
section
namespace L3
open PySem PySem.Spec PyProof.Rows L2 LamX ClX
def rStrB (K : PySem.W.Frag) : List V → Hp → VK → Prop := fun xs H Q => ∃ i : Int, xs = [.int i] ∧ PySem.W.nsIn K cStatics "sys.int_max_str_digits" = some none ∧ i.natAbs < 10 ^ 4300 ∧ Q (.str (strOf i)) H
theorem callStrB {X : Cx} (hc : X.calm = true) : CallR X (.type "str") (rStrB X.K) := by
  intro pins s σ H xs us Q I r h
  obtain ⟨i, rfl, hk, hi, q⟩ := h
  obtain ⟨u, rfl, t, rfl⟩ := vals1 r
  exact str_of_int_or (I.ok.hd hc) (digits_free I.kIn I.nolimit hk) (fun _ => ⟨.str _, H, I.tok _, ⟨_, rfl⟩, q⟩) (fun h => absurd hi (Nat.not_lt_of_le h))
def rStrOwn (C : Addr) (sp : Sp) (E : XK) : List V → Hp → VK → Prop := fun xs H Q => ∃ a dx fs, xs = [.ref a] ∧ H a = some (.ins C dx fs) ∧ sp [.ref a] H (fun z H' => ∃ y, z = .str y ∧ Q (.str y) H') E
theorem callStrOwn {X : Cx} {C : Addr} {k j : Nat} {sp : Sp} {E : XK} (B : Me X.prog X.w X.K X.mg X.base C "__str__" k ["self"] sp) (hr : Room (j + 2) X.A) (hx : Passes (L2.CX X.prog X.w) X E) (hk : k ≤ j := by decide) : CallR X (.type "str") (rStrOwn C sp E) := by
  obtain ⟨f, fd, h1, h2, G, b⟩ := B.ex
  intro pins s σ H xs us Q I r h
  obtain ⟨a, dx, fs, rfl, ea, q⟩ := h
  obtain ⟨u, rfl, rx⟩ := vals1 r
  cases (show u = Value.ref a from rx)
  obtain ⟨od, J⟩ := ins_inst I.hok ea
  refine PySem.W.kso_call (by have := hr.units; show X.A.units + 1 + 1 < cLine; omega) I.kIn J h1 h2 ?_
  refine wpAny_call (codeAny_mono (G.run X.A.in1.in1 X.stack s H ⟨[.ref a], []⟩ [.ref a] [.ref a] (fun z H' => ∃ y, z = .str y ∧ Q (.str y) H') E (hr.in1.in1.mono hk) I.env0.in1.in1 (by have := b s [.ref a] I.kIn rfl; rw [List.append_nil] at this; exact this) (.cons (show RelV (.ref a) (.ref a) from rfl) .nil) q) fun r s' z => ?_)
  match r, z with
  | .error e, z => exact hx pins σ H s e s' I z
  | .ok (.ret u), z =>
    obtain ⟨v', H', I', r', y, rfl, q'⟩ := I.after z
    obtain ⟨t, rfl⟩ := (show ∃ t, u = Value.str y t from r')
    exact ⟨.str y, H', I', ⟨t, rfl⟩, q'⟩
structure Er2 (P : Program) (w : World) (K : PySem.W.Frag) (mg : Str → Option Value) (base : Heap) (x : Str) (C : Addr) (g g2 : Str) : Prop where
  oex : OexC K C
  m : mg x = some (.ref C)
  ex : ∃ (f : Addr) (fd : FuncData) (y y2 : Str), PySem.W.findIn K (.ref C) "__init__" = some (some (.ref f)) ∧ PySem.W.typeIn K (.ref f) = some (.type "function") ∧ FnOk P w K mg base CX0 1 f fd ["self", y, y2] (spErr2 C g g2) ∧ L2.Binds K fd ["self", y, y2] []
def Rz2 (C : Addr) (g g2 : Str) (v v2 : V) (H : Hp) (E : XK) : Prop := ∀ d H', H d = none → Ex H H' → H' d = some (.xd [(g2, v2), (g, v)]) → E (.ref C) (some d) H'
theorem Rz2.ex {C : Addr} {g g2 : Str} {v v2 : V} {H H' : Hp} {E : XK} (h : Rz2 C g g2 v v2 H E) (e : Ex H H') : Rz2 C g g2 v v2 H' E := fun d H2 hd e2 hx => h d H2 (e.free hd) (e.trans e2) hx
def rMk2 (C : Addr) (g g2 : Str) (vs : List V) (H1 : Hp) (E : XK) : Prop := vs.length ≤ 1000 ∧ ∀ a, H1 a = none → spErr2 C g g2 (.ref a :: (vs ++ [])) (upd H1 a (exo a C none))
  (fun v H2 => v = .non ∧ ∃ (d : Addr) (fs : List (Str × V)), H2 a = some (exo a C (some d)) ∧ H2 d = some (exd d fs) ∧ H1 d = none ∧ E (.ref C) (some d) (upd (del H2 a) d (.xd fs))) (fun _ _ _ => False)
def tRaise2 (C : Addr) (g g2 : Str) (te te2 : TE) (W : WX) : TS := fun _ σ H => te σ H fun v H1 => te2 σ H1 fun v2 H2 => rMk2 C g g2 [v, v2] H2 (fun cls d H' => W cls d σ H')
theorem ps_raise2 {X : Cx} {W : WX} {x g g2 : Str} {C : Addr} {j : Nat} {e e2 : Expr} {te te2 : TE} {p p1 pos : Pos} (c : Er2 X.prog X.w X.K X.mg X.base x C g g2) (hr : Room j X.A) (hc : X.calm = true) (tk : Takes X W) (ha : PA X [e, e2] (tCons te (tCons te2 tNil))) (hk : 2 ≤ j := by decide) (gl : Gl X x := by rfl)
    (hdb : (x == ("__debug__" : Str)) = false := by decide) (hst : starEach [e, e2] X.env = (false, eval e X.env) :: starEach [e2] X.env := by rfl) (hpl : (backTo p1 (starEach [e2] X.env)).any (·.1) = false := by rfl) :
    PS X (.Raise (some (.Call (.Name x p) [e, e2] [] p1)) none pos) (tRaise2 C g g2 te te2 W) := by
  obtain ⟨f, fd, y, y2, i1, i2, F, b⟩ := c.ex
  exact ps_raise (pos := pos) hc tk (pmk_oex (p := p) (pos := p1) c.oex i1 i2 F (hr.mono hk) b .nil pass0 gl c.m ha hdb hst hpl)
theorem s_raise2 {C : Addr} {g g2 : Str} {te te2 : TE} {W : WX} {D : Ends} {σ : L2.St} {H : Hp} (h : te σ H fun v H1 => te2 σ H1 fun v2 H2 => rMk2 C g g2 [v, v2] H2 (fun cls d H' => W cls d σ H')) : tRaise2 C g g2 te te2 W D σ H := h
theorem s_rz2 {C : Addr} {g g2 : Str} {v v2 : V} {H : Hp} {E : XK} (h : Rz2 C g g2 v v2 H E) : rMk2 C g g2 [v, v2] H E := by
  refine ⟨(show 2 ≤ 1000 by decide), fun a ha => ⟨a, v, v2, rfl, upd_same, fun dx h1 h2 => ⟨rfl, dx, [(g2, v2), (g, v)], ?_, upd_same, ?_, h dx _ ?_ ?_ upd_same⟩⟩⟩
  · rw [upd_ne (Ne.symm h2), upd_same]
  · rw [upd_ne h2] at h1; exact h1
  · rw [upd_ne h2] at h1; exact h1
  · intro b o e
    have n1 : b ≠ a := ne_of_none e ha
    have n2 : b ≠ dx := by
      rw [upd_ne h2] at h1
      exact ne_of_none e h1
    rw [upd_ne n2, del_ne n1, upd_ne n2, upd_ne n1, upd_ne n2, upd_ne n1]
    exact e
end L3
end
section
namespace L3
open PySem PySem.Spec PySem.Calls PyProof.Rows PySem.W PySem.TypeEq
end L3
namespace L3
open PySem PySem.Spec PyProof.Rows L2 LamX
/-- two functions made by lambdas -/
def FnAt (H : Hp) (f : Addr) : Prop := H f = some (FnV f)
theorem FnAt.exN {H H' : Hp} {f : Addr} (h : FnAt H f) (e : ExtN H H') : FnAt H' f := e _ _ h fun _ z => by unfold FnV at z; cases z
end L3
end
section
namespace L3
open PySem PySem.Spec PyProof.Rows L2 LamX
/-- a number within, or anything else -/
def InB (v : V) (a b : Int) : Prop := ∃ i, v = .int i ∧ a ≤ i ∧ i ≤ b
def OutB (H : Hp) (v : V) (a b : Int) : Prop := (∃ t, Od H v t) ∨ ∃ i, v = .int i ∧ ¬ (a ≤ i ∧ i ≤ b)
theorem OutB.exN {H H' : Hp} {v : V} {a b : Int} (h : OutB H v a b) (e : ExtN H H') : OutB H' v a b := h.imp (fun ⟨t, h⟩ => ⟨t, h.exN e⟩) id
/-- a number or another value -/
def Kv (H : Hp) (v : V) : Prop := (∃ i, v = .int i) ∨ ∃ t, Od H v t
theorem Kv.exN {H H' : Hp} {v : V} (h : Kv H v) (e : ExtN H H') : Kv H' v := h.imp id fun ⟨t, h⟩ => ⟨t, h.exN e⟩
theorem Kv.ex {H H' : Hp} {v : V} (h : Kv H v) (e : Ex H H') : Kv H' v := h.exN e.n
theorem Kv.keep {H H' : Hp} {p : Addr} {v : V} (h : Kv H v) (hn : v ≠ .ref p) (k : ∀ b o, b ≠ p → H b = some o → H' b = some o) : Kv H' v := h.imp id fun ⟨t, h⟩ => ⟨t, h.keep hn k⟩
def spWithin : Sp := fun vs H Q _ => ∃ x a b, vs = [x, .int a, .int b] ∧ ((InB x a b ∧ Q (.bl true) H) ∨ (OutB H x a b ∧ Q (.bl false) H))
def spSize : Sp := fun vs H Q _ => ∃ x, vs = [x] ∧ ((InB x 1 (10 ^ 30) ∧ Q (.bl true) H) ∨ (OutB H x 1 (10 ^ 30) ∧ Q (.bl false) H))
def fxF (i : Int) (t : Addr) : List (Str × V) := putF "modulus" (.int 1) (putF "parts" (.ref t) (putF "size" (.int i) []))
def Fx (C : Addr) (H : Hp) (q : Addr) (i : Int) : Prop := ∃ dx t, H q = some (.ins C dx (fxF i t)) ∧ H t = some (.tup [.ref q])
def dvF (x y w : Int) (t : Addr) : List (Str × V) := putF "modulus" (.int w) (putF "parts" (.ref t) (putF "w" (.int w) (putF "y" (.int y) (putF "x" (.int x) []))))
def Dv (C : Addr) (H : Hp) (q : Addr) (x y w : Int) : Prop := ∃ dx t, H q = some (.ins C dx (dvF x y w t)) ∧ H t = some (.tup [.ref q])
def byF (f t : Addr) : List (Str × V) := putF "modulus" (.int 1) (putF "parts" (.ref t) (putF "function" (.ref f) []))
def Byr (C : Addr) (H : Hp) (q f : Addr) : Prop := ∃ dx t, H q = some (.ins C dx (byF f t)) ∧ H t = some (.tup [])
section
variable {C CS CR : Addr} {H H' : Hp} {Q : VK} {E : XK}
theorem Fx.exN {q : Addr} {i : Int} (h : Fx C H q i) (e : ExtN H H') : Fx C H' q i := by
  obtain ⟨dx, t, a, b⟩ := h
  exact ⟨dx, t, e _ _ a (fun _ z => nomatch z), e _ _ b (fun _ z => nomatch z)⟩
theorem Fx.ex {q : Addr} {i : Int} (h : Fx C H q i) (e : Ex H H') : Fx C H' q i := h.exN e.n
theorem Dv.exN {q : Addr} {x y w : Int} (h : Dv C H q x y w) (e : ExtN H H') : Dv C H' q x y w := by
  obtain ⟨dx, t, a, b⟩ := h
  exact ⟨dx, t, e _ _ a (fun _ z => nomatch z), e _ _ b (fun _ z => nomatch z)⟩
theorem Dv.ex {q : Addr} {x y w : Int} (h : Dv C H q x y w) (e : Ex H H') : Dv C H' q x y w := h.exN e.n
theorem Byr.exN {q f : Addr} (h : Byr C H q f) (e : ExtN H H') : Byr C H' q f := by
  obtain ⟨dx, t, a, b⟩ := h
  exact ⟨dx, t, e _ _ a (fun _ z => nomatch z), e _ _ b (fun _ z => nomatch z)⟩
/-- what a made instance leaves: itself, its dict, its tuple -/
def MkT (C : Addr) (fs : Addr → List (Str × V)) (tv : List V) (p dx : Addr) (H : Hp) (Q : VK) : Prop := ∀ t H', H t = none → t ≠ p → (∀ c o, c ≠ p → H c = some o → H' c = some o) → H' t = some (.tup tv) → H' p = some (.ins C dx (fs t)) → Q .non H'
theorem mkt {fs : Addr → List (Str × V)} {tv : List V} {p dx : Addr} (hp : H p = none) (hd : H dx = none) (hn : dx ≠ p) (h : ∀ t H', H t = none → Ex H H' → H' p = some (.ins C dx (fs t)) → H' t = some (.tup tv) → Q (.ref p) H') :
    MkT C fs tv p dx (upd (upd H dx (.own p)) p (.ins C dx [])) (fun v H2 => v = .non ∧ ap Q (.ref p) H2) := fun t H' ht htp hk h1 h2 => by
  have ht' : H t = none := by
    rw [upd_ne htp] at ht
    by_cases z : t = dx
    · rw [z]; exact hd
    · rw [upd_ne z] at ht; exact ht
  refine ⟨rfl, h t H' ht' (fun c o e => ?_) h2 h1⟩
  exact hk c o (ne_of_none e hp) (by rw [upd_ne (ne_of_none e hp), upd_ne (ne_of_none e hd)]; exact e)
def spFx (C CS : Addr) : Sp := fun vs H Q E => ∃ p dx x, vs = [.ref p, x] ∧ H p = some (.ins C dx []) ∧
  ((∃ i, x = .int i ∧ (1 ≤ i ∧ i ≤ 10 ^ 30) ∧ MkT C (fxF i) [.ref p] p dx H Q) ∨ (OutB H x 1 (10 ^ 30) ∧ Rz CS "value" x H E))
def WrD (H : Hp) (a b c : V) (z : Str) : Prop := (OutB H a 0 24 ∧ z = "x") ∨ (InB a 0 24 ∧ OutB H b (-1000) 1000 ∧ z = "y") ∨ (InB a 0 24 ∧ InB b (-1000) 1000 ∧ OutB H c 1 24 ∧ z = "w")
theorem WrD.exN {a b c : V} {z : Str} (h : WrD H a b c z) (e : ExtN H H') : WrD H' a b c z := by
  rcases h with ⟨h, r⟩ | ⟨i, h, r⟩ | ⟨i, j, h, r⟩
  · exact .inl ⟨h.exN e, r⟩
  · exact .inr (.inl ⟨i, h.exN e, r⟩)
  · exact .inr (.inr ⟨i, j, h.exN e, r⟩)
def spDv (C CR : Addr) : Sp := fun vs H Q E => ∃ p dx a b c, vs = [.ref p, a, b, c] ∧ H p = some (.ins C dx []) ∧
  ((∃ x y w, a = .int x ∧ b = .int y ∧ c = .int w ∧ (0 ≤ x ∧ x ≤ 24) ∧ (-1000 ≤ y ∧ y ≤ 1000) ∧ (1 ≤ w ∧ w ≤ 24) ∧ MkT C (dvF x y w) [.ref p] p dx H Q) ∨ (∃ z, WrD H a b c z ∧ Rz CR "part" (.str z) H E))
theorem s_mkFx {dvs : List V} {i : Int} (hi : 1 ≤ i ∧ i ≤ 10 ^ 30) (h : ∀ q H', H q = none → Ex H H' → Fx C H' q i → Q (.ref q) H') : ∀ p dx, H p = none → H dx = none → dx ≠ p → spFx C CS (.ref p :: ([.int i] ++ [])) (upd (upd H dx (.own p)) p (.ins C dx [])) (fun v H2 => v = .non ∧ ap Q (.ref p) H2) E := fun p dx hp hd hn =>
  ⟨p, dx, _, rfl, upd_same, .inl ⟨i, rfl, hi, mkt hp hd hn fun t H' ht e h1 h2 => h p H' hp e ⟨dx, t, h1, h2⟩⟩⟩
theorem s_mkDv {x y w : Int} (hx : 0 ≤ x ∧ x ≤ 24) (hy : -1000 ≤ y ∧ y ≤ 1000) (hw : 1 ≤ w ∧ w ≤ 24) (h : ∀ q H', H q = none → Ex H H' → Dv C H' q x y w → Q (.ref q) H') : ∀ p dx, H p = none → H dx = none → dx ≠ p → spDv C CR (.ref p :: ([.int x, .int y, .int w] ++ [])) (upd (upd H dx (.own p)) p (.ins C dx [])) (fun v H2 => v = .non ∧ ap Q (.ref p) H2) E := fun p dx hp hd hn =>
  ⟨p, dx, _, _, _, rfl, upd_same, .inl ⟨x, y, w, rfl, rfl, rfl, hx, hy, hw, mkt hp hd hn fun t H' ht e h1 h2 => h p H' hp e ⟨dx, t, h1, h2⟩⟩⟩
end
end L3
end
section
namespace L3
open PySem PySem.Spec PyProof.Rows L2 LamX
section
variable {K : PySem.W.Frag} {σ : L2.St} {H H' : Hp} {Q : VK} {C CR CS CF CD : Addr}
/-- the list of other values -/
def OddL (H : Hp) (l : Addr) : Prop := ∃ t e d, H l = some (.lst [.non, .bl true, .str "1", .ref t, .ref e, .ref d, .bl false]) ∧ H t = some (.tup [.int 1]) ∧ H e = some (.lst []) ∧ H d = some (.dK [])
theorem OddL.ex {l : Addr} (h : OddL H l) (e : Ex H H') : OddL H' l := by
  obtain ⟨t, a, d, h1, h2, h3, h4⟩ := h
  exact ⟨t, a, d, e _ _ h1, e _ _ h2, e _ _ h3, e _ _ h4⟩
theorem OddL.keep {l p : Addr} {n : Nat} (h : OddL H l) (hp : Pen H p n) (k : ∀ b o, b ≠ p → H b = some o → H' b = some o) : OddL H' l := by
  obtain ⟨t, a, d, h1, h2, h3, h4⟩ := h
  have nn : ∀ {q : Addr} {o : HO}, H q = some o → (∀ c n, o ≠ PenO p c n) → H' q = some o := fun {q o} e z => k _ _ (hp.ne e z) e
  exact ⟨t, a, d, nn h1 (fun c n z => by unfold PenO at z; cases z), nn h2 (fun c n z => by unfold PenO at z; cases z), nn h3 (fun c n z => by unfold PenO at z; cases z), nn h4 (fun c n z => by unfold PenO at z; cases z)⟩
theorem Byr.ex {q f : Addr} (h : Byr C H q f) (e : Ex H H') : Byr C H' q f := h.exN e.n
theorem FnAt.ex {f : Addr} (h : FnAt H f) (e : Ex H H') : FnAt H' f := h.exN e.n
end
end L3
end
section
namespace L3
open PySem PySem.Spec PySem.HandSPX
end L3
end
section
namespace L3
open PySem PySem.Spec PyProof.Rows L2 LamX
def LamF (f : Addr) (q : Str) (params : Arguments) (body : Expr) (scope : Scope) (c' : Addr) : HO := .ext fun h => ∃ pm ctv, h.get? f = some (PySem.W.kla_obj "<lambda>" q params body scope [] pm c' ctv)
/-- what is promised of such a lambda, wherever it is called -/
structure Lam1 (P : Program) (w : World) (K : PySem.W.Frag) (mg : Str → Option Value) (base : Heap) (k : Nat) (x : Str) (q : Str) (params : Arguments) (body : Expr) (scope : Scope) (sp : Sp) : Prop where
  bind : ∀ (pm cv ctv u : Value), bindArgs (PySem.W.kla_fn "<lambda>" q params body scope [] pm cv ctv) ⟨[u], []⟩ = pure [(x, u)]
  sc : FnScope [x] [x] scope
  body : ∀ (A : Around) (outer : List Env) (s : Shared) (H : Hp) (E : XK) (f c' : Addr) (v : V) (Q : VK), Room k (A.deeper (envOfC q scope s.heap.objs.size f (.ref c'))) → sp [v] H Q E → ∃ t, PE (cxOf CX0 P w K mg base [x] q scope f (.ref c') A outer s H E) body t ∧ t [some v] H Q
def LamAt (P : Program) (w : World) (K : PySem.W.Frag) (mg : Str → Option Value) (base : Heap) (k : Nat) (H : Hp) (f : Addr) (sp : Sp) : Prop :=
  ∃ (x q : Str) (params : Arguments) (body : Expr) (scope : Scope) (c' : Addr), H f = some (LamF f q params body scope c') ∧ H c' = some (CodeO c' q) ∧ Lam1 P w K mg base k x q params body scope sp
theorem LamAt.exN {P : Program} {w : World} {K : PySem.W.Frag} {mg : Str → Option Value} {base : Heap} {k : Nat} {H H' : Hp} {f : Addr} {sp : Sp} (h : LamAt P w K mg base k H f sp) (e : ExtN H H') : LamAt P w K mg base k H' f sp := by
  obtain ⟨x, q, params, body, scope, c', h1, h2, h3⟩ := h
  exact ⟨x, q, params, body, scope, c', e _ _ h1 (fun _ z => by unfold LamF at z; cases z), e _ _ h2 codeO_ne, h3⟩
theorem LamAt.keep {P : Program} {w : World} {K : PySem.W.Frag} {mg : Str → Option Value} {base : Heap} {k : Nat} {H H' : Hp} {f : Addr} {sp : Sp} (h : LamAt P w K mg base k H f sp) (e : ∀ b o, H b = some o → (∃ f q a b s c, o = LamF f q a b s c) ∨ (∃ c q, o = CodeO c q) → H' b = some o) : LamAt P w K mg base k H' f sp := by
  obtain ⟨x, q, params, body, scope, c', h1, h2, h3⟩ := h
  exact ⟨x, q, params, body, scope, c', e _ _ h1 (.inl ⟨_, _, _, _, _, _, rfl⟩), e _ _ h2 (.inr ⟨_, _, rfl⟩), h3⟩
def tCallF (P : Program) (w : World) (K : PySem.W.Frag) (mg : Str → Option Value) (base : Heap) (k : Nat) (tf : TE) (ta : TA) : TE := fun σ H Q =>
  tf σ H fun fv H1 => ∃ (f : Addr) (sp : Sp), fv = .ref f ∧ LamAt P w K mg base k H1 f sp ∧ ta σ H1 fun vs H2 => ∃ v, vs = [v] ∧ LamAt P w K mg base k H2 f sp ∧ sp [v] H2 Q (fun _ _ _ => False)
end L3
end
section
namespace L3
open PySem PySem.Spec PyProof.Rows L2 LamX
def ErAt (H : Hp) (a C : Addr) (fs : List (Str × V)) : Prop := (∃ d, H a = some (exo a C (some d)) ∧ H d = some (exd d fs)) ∨ (fs = [] ∧ H a = some (exo a C none))
theorem exo_tbl {e C : Addr} {d : Option Addr} : ∀ ps, exo e C d ≠ .tbl ps := fun _ z => by unfold exo at z; cases z
theorem exd_tbl {d : Addr} {fs : List (Str × V)} : ∀ ps, exd d fs ≠ .tbl ps := fun _ z => by unfold exd at z; cases z
theorem ErAt.exN {H H' : Hp} {a C : Addr} {fs : List (Str × V)} (h : ErAt H a C fs) (e : ExtN H H') : ErAt H' a C fs := by
  rcases h with ⟨d, h1, h2⟩ | ⟨h1, h2⟩
  · exact .inl ⟨d, e _ _ h1 exo_tbl, e _ _ h2 exd_tbl⟩
  · exact .inr ⟨h1, e _ _ h2 exo_tbl⟩
def tLstN (t : TA) : TE := fun σ H Q => t σ H fun xs H1 => xs.length ≤ sizeLine ∧ ∀ p, H1 p = none → p ≠ sysModules → ap Q (.ref p) (upd H1 p (.lst xs))
def litB : V → Bool
  | .int _ => true
  | .bl _ => true
  | .str _ => true
  | .non => true
  | _ => false
def litD : V → PyData
  | .int i => .int i
  | .bl b => .bool b
  | .str z => .str z
  | _ => .none
theorem readsFlat {h : Heap} : ∀ {xs : List V} {us : List Value}, Vals xs us → xs.all litB = true → ReadsAll h us (xs.map litD) []
  | [], _, r, _ => by cases r; exact .nil
  | x :: xs, _, r, hf => by
    cases r with
    | cons rx rs =>
      rw [List.all_cons, Bool.and_eq_true] at hf
      have ih := readsFlat (h := h) rs hf.2
      have one : ∀ {u : Value}, RelV x u → Reads h u (litD x) [] := fun {u} rx => by
        cases x with
        | int i => obtain ⟨t, rfl⟩ := rx; exact .int i t
        | bl b => cases (show u = Value.bool b from rx); exact .bool b
        | str z => obtain ⟨t, rfl⟩ := rx; exact .str z t
        | non => cases (show u = Value.none from rx); exact .none
        | _ => exact absurd hf.1 (by simp [litB])
      exact .cons (one rx) ih
inductive Vd (H : Hp) : V → PyData → Prop
  | non : Vd H .non .none
  | bl (b : Bool) : Vd H (.bl b) (.bool b)
  | int (i : Int) : Vd H (.int i) (.int i)
  | str (z : Str) : Vd H (.str z) (.str z)
  | tup {p : Addr} {xs : List V} : H p = some (.tup xs) → xs.all litB = true → Vd H (.ref p) (.tuple (xs.map litD))
  | lst {p : Addr} {xs : List V} : H p = some (.lst xs) → p ≠ sysModules → xs.all litB = true → Vd H (.ref p) (.list (xs.map litD))
  | d0 {p : Addr} : H p = some (.dK []) → Vd H (.ref p) (.dict [])
  | d1 {p : Addr} {k v : Str} : H p = some (.dK [(.inr k, .str v)]) → Vd H (.ref p) (.dict [(.str k, .str v)])
theorem Vd.map {H H' : Hp} {v : V} {d : PyData} (h : Vd H v d) (f : ∀ a o, v = .ref a → H a = some o → (∀ ps, o ≠ .tbl ps) → H' a = some o) : Vd H' v d := by
  cases h with
  | non => exact .non
  | bl b => exact .bl b
  | int i => exact .int i
  | str z => exact .str z
  | tup h1 h2 => exact .tup (f _ _ rfl h1 fun _ z => nomatch z) h2
  | lst h1 h2 h3 => exact .lst (f _ _ rfl h1 fun _ z => nomatch z) h2 h3
  | d0 h1 => exact .d0 (f _ _ rfl h1 fun _ z => nomatch z)
  | d1 h1 => exact .d1 (f _ _ rfl h1 fun _ z => nomatch z)
theorem Vd.exN {H H' : Hp} {v : V} {d : PyData} (h : Vd H v d) (e : ExtN H H') : Vd H' v d := h.map fun a o _ h n => e a o h n
theorem Vd.ex {H H' : Hp} {v : V} {d : PyData} (h : Vd H v d) (e : Ex H H') : Vd H' v d := h.exN e.n
theorem Vd.reads {X : Cx} {pins : List (Addr × Obj)} {σ : L2.St} {H : Hp} {s : Shared} {v : V} {d : PyData} {u : Value} (I : Inv X pins σ H s) (h : Vd H v d) (r : RelV v u) : ∃ as, Reads s.heap u d as ∧ sysModules ∉ as := by
  cases h with
  | non => cases (show u = Value.none from r); exact ⟨[], .none, by simp⟩
  | bl b => cases (show u = Value.bool b from r); exact ⟨[], .bool b, by simp⟩
  | int i => obtain ⟨t, rfl⟩ := r; exact ⟨[], .int i t, by simp⟩
  | str z => obtain ⟨t, rfl⟩ := r; exact ⟨[], .str z t, by simp⟩
  | @tup p xs h1 h2 =>
    cases (show u = Value.ref p from r)
    obtain ⟨_, its, rv, o, e1, e2, n, e3⟩ := (show ObjOk X.prog X.w H s.heap p (.tup xs) from I.hok p _ h1)
    exact ⟨[], .tuple e1 e2 e3 (by simpa using readsFlat rv h2), by simp⟩
  | @lst p xs h1 h2 h3 =>
    cases (show u = Value.ref p from r)
    obtain ⟨_, its, n, rv, e1⟩ := (show ObjOk X.prog X.w H s.heap p (.lst xs) from I.hok p _ h1)
    exact ⟨_, .list e1 rfl rfl (by simpa using readsFlat rv h3), by simpa using Ne.symm h2⟩
  | @d0 p h1 =>
    cases (show u = Value.ref p from r)
    obtain ⟨_, hs, vs, kv, hd⟩ := (show ObjOk X.prog X.w H s.heap p (.dK []) from I.hok p _ h1)
    cases kv
    obtain ⟨o, es, ep, e1, ⟨e2, _⟩, e3, _, e4, _⟩ := hd
    have e5 : es.toList = [] := by
      generalize es.toList = l at e4
      cases l with
      | nil => rfl
      | cons a b => cases e4
    exact ⟨_, .dict (as := []) (bs := []) e1 e2 e3 (by rw [e5]; exact .nil) (by rw [e5]; exact .nil), by simpa using Ne.symm (beq_eq_false_iff_ne.mp hs)⟩
  | @d1 p k v h1 =>
    cases (show u = Value.ref p from r)
    obtain ⟨_, hs, vs, kv, hd⟩ := (show ObjOk X.prog X.w H s.heap p (.dK [(.inr k, .str v)]) from I.hok p _ h1)
    obtain ⟨o, es, ep, e1, ⟨e2, _⟩, e3, _, e4, _⟩ := hd
    obtain ⟨k0, v0, rfl, hk0, rv⟩ : ∃ k0 v0, vs = [(k0, v0)] ∧ k0 = .inr k ∧ L2.RelV (.str v) v0 := by
      cases kv with
      | cons rv kv' => cases kv'; exact ⟨_, _, rfl, rv.1.symm, rv.2⟩
    subst hk0
    obtain ⟨e0, he, hk, hv⟩ : ∃ e0 : DictEntry, es.toList = [e0] ∧ (mixKind X.prog X.w).is (.inr k) e0.key = true ∧ e0.val = v0 := by
      generalize es.toList = l at e4
      cases l with
      | nil => cases e4
      | cons e l =>
        generalize hz : [((Sum.inr k : Key), v0)] = z at e4
        cases e4 with
        | cons h1 h2 h3 =>
          cases hz
          cases h3
          exact ⟨e, rfl, h1, h2⟩
    obtain ⟨t1, hk'⟩ : ∃ t1, e0.key = .str k t1 := by
      change keyIs (.inr k) e0.key = true at hk
      rcases keyIs_shape hk with ⟨i, t, z, _⟩ | ⟨x, t, z, z2⟩
      · cases z
      · cases z; exact ⟨t, z2⟩
    obtain ⟨t2, rfl⟩ := rv
    exact ⟨_, .dict (as := []) (bs := []) e1 e2 e3 (by rw [he]; show ReadsAll _ [e0.key] [.str k] []; rw [hk']; exact .cons (.str k t1) .nil) (by rw [he]; show ReadsAll _ [e0.val] [.str v] []; rw [hv]; exact .cons (.str v t2) .nil), by simpa using Ne.symm (beq_eq_false_iff_ne.mp hs)⟩
inductive VdAll (H : Hp) : List V → List PyData → Prop
  | nil : VdAll H [] []
  | cons {v : V} {d : PyData} {vs : List V} {ds : List PyData} : Vd H v d → VdAll H vs ds → VdAll H (v :: vs) (d :: ds)
theorem VdAll.exN {H H' : Hp} {vs : List V} {ds : List PyData} (h : VdAll H vs ds) (e : ExtN H H') : VdAll H' vs ds := by
  induction h with
  | nil => exact .nil
  | cons a _ b => exact .cons (a.exN e) b
theorem VdAll.reads {X : Cx} {pins : List (Addr × Obj)} {σ : L2.St} {H : Hp} {s : Shared} (I : Inv X pins σ H s) : ∀ {vs : List V} {ds : List PyData} {us : List Value}, VdAll H vs ds → Vals vs us → ∃ as, ReadsAll s.heap us ds as ∧ sysModules ∉ as
  | _, _, _, .nil, r => by cases r; exact ⟨[], .nil, by simp⟩
  | _, _, _, .cons a b, r => by
    cases r with
    | cons r1 r2 =>
      obtain ⟨as, h1, h2⟩ := a.reads I r1
      obtain ⟨bs, h3, h4⟩ := VdAll.reads I b r2
      exact ⟨_, .cons h1 h3, fun z => (List.mem_append.mp z).elim h2 h4⟩
end L3
end
section
namespace L3
open PySem PySem.Spec PyProof.Rows L2 LamX
section
variable {σ : L2.St} {H : Hp} {te : TE} {Q : VK} {K : PySem.W.Frag}
def spTell (K : PySem.W.Frag) (gs : List Str) : Sp := fun xs H Q _ => ∃ a C fs vs, xs = [.ref a] ∧ ErAt H a C fs ∧ XfC K C ∧ (∀ g ∈ gs, PySem.W.findIn K (.ref C) g = some none) ∧ gs.map (fun g => fs.lookup g) = vs.map some ∧ vs.length ≤ 1000 ∧
  ∀ p H', p ≠ sysModules → H p = none → Ex H H' → H' p = some (.lst vs) → Q (.ref p) H'
def spKind (K : PySem.W.Frag) (C : Addr) : Sp := fun xs H Q _ => ∃ a D fs b, xs = [.ref a] ∧ ErAt H a D fs ∧ ExcC K D ∧ PySem.W.kitOne K (.ref D) (.ref C) = some b ∧ Q (.bl b) H
/-- one row: an error, what tells it, what is due, its number -/
def Row (Lm : Hp → Addr → Sp → Prop) (K : PySem.W.Frag) (cs : List Addr) (v1 v2 : V) (H : Hp) (v : V) : Prop := ∃ t e f l j fs gs vs, v = .ref t ∧ H t = some (.tup [.ref e, .ref f, .ref l, .int ((j : Nat) : Int)]) ∧ j < 26 ∧ ErAt H e (cs.getD j 0) fs ∧ Lm H f (spTell K gs) ∧ H l = some (.lst vs) ∧ l ≠ sysModules ∧
  (∀ g ∈ gs, PySem.W.findIn K (.ref (cs.getD j 0)) g = some none) ∧ gs.map (fun g => fs.lookup g) = vs.map some ∧ (∀ x ∈ vs, x = v1 ∨ x = v2) ∧ vs.length ≤ 2
theorem Row.exN {Lm : Hp → Addr → Sp → Prop} (hL : ∀ H H' f sp, Lm H f sp → ExtN H H' → Lm H' f sp) {cs : List Addr} {v1 v2 : V} {H H' : Hp} {v : V} (h : Row Lm K cs v1 v2 H v) (e : ExtN H H') : Row Lm K cs v1 v2 H' v := by
  obtain ⟨t, e0, f, l, j, fs, gs, vs, h1, h2, h3, h4, h5, h6, h7⟩ := h
  exact ⟨t, e0, f, l, j, fs, gs, vs, h1, e _ _ h2 (fun _ z => nomatch z), h3, h4.exN e, hL _ _ _ _ h5 e, e _ _ h6 (fun _ z => nomatch z), h7⟩
end
section
variable {σ : L2.St} {H : Hp} {Q : VK} {K : PySem.W.Frag}
theorem s_lstN {t : TA} (h : t σ H fun xs H1 => xs.length ≤ sizeLine ∧ ∀ p, H1 p = none → p ≠ sysModules → ap Q (.ref p) (upd H1 p (.lst xs))) : tLstN t σ H Q := h
theorem s_callF {P : Program} {w : World} {mg : Str → Option Value} {base : Heap} {k : Nat} {tf : TE} {ta : TA} (h : tf σ H fun fv H1 => ∃ (f : Addr) (sp : Sp), fv = .ref f ∧ LamAt P w K mg base k H1 f sp ∧ ta σ H1 fun vs H2 => ∃ v, vs = [v] ∧ LamAt P w K mg base k H2 f sp ∧ sp [v] H2 Q (fun _ _ _ => False)) : tCallF P w K mg base k tf ta σ H Q := h
def KindsAt (Lm : Hp → Addr → Sp → Prop) (K : PySem.W.Frag) (cs : List Addr) (H : Hp) (l : Addr) : Prop := ∃ xs, H l = some (.lst xs) ∧ xs.length = 26 ∧ ∀ j, j < 26 → ∃ f, xs[j]? = some (.ref f) ∧ Lm H f (spKind K (cs.getD j 0))
theorem KindsAt.exN {Lm : Hp → Addr → Sp → Prop} (hL : ∀ H H' f sp, Lm H f sp → ExtN H H' → Lm H' f sp) {cs : List Addr} {H H' : Hp} {l : Addr} (h : KindsAt Lm K cs H l) (e : ExtN H H') : KindsAt Lm K cs H' l := by
  obtain ⟨xs, h1, h2, h3⟩ := h
  exact ⟨xs, e _ _ h1 (fun _ z => nomatch z), h2, fun j hj => (h3 j hj).imp fun f h => ⟨h.1, hL _ _ _ _ h.2 e⟩⟩
end
end L3
end
section
namespace L3
open PySem PySem.Spec PyProof.Rows L2 LamX
inductive Pq (K : PySem.W.Frag) (H : Hp) : V → V → Bool → Prop
  | dat {x y : V} {d e : PyData} : Dp K H x d → Dp K H y e → SeqAt.shaped d = true → SeqAt.shaped e = true → Pq K H x y (PyData.eqv d e)
  | d0 {p : Addr} : H p = some (.dK []) → Pq K H (.ref p) (.ref p) true
  | d1 {p : Addr} {k v : Str} : H p = some (.dK [(.inr k, .str v)]) → Pq K H (.ref p) (.ref p) true
end L3
end
section
namespace L3
open PySem PySem.Spec PyProof.Rows L2 LamX
section
variable {K : PySem.W.Frag} {σ : L2.St} {H H' : Hp} {Q : VK} {C : Addr}
def PaAt (H : Hp) (q C : Addr) (fs : List (Str × V)) : Prop := ∃ dx, H q = some (.ins C dx fs)
theorem PaAt.exN {q : Addr} {fs : List (Str × V)} (h : PaAt H q C fs) (e : ExtN H H') : PaAt H' q C fs := h.imp fun _ h => e _ _ h fun _ z => nomatch z
theorem PaAt.ex {q : Addr} {fs : List (Str × V)} (h : PaAt H q C fs) (e : Ex H H') : PaAt H' q C fs := h.exN e.n
end
section
variable {K : PySem.W.Frag} {σ : L2.St} {H H' : Hp} {Q : VK} {C : Addr}
theorem Pq.ex {x y : V} {b : Bool} (h : Pq K H x y b) (e : Ex H H') : Pq K H' x y b := by
  have sl : ∀ a xs, SqL K H a xs → SqL K H' a xs := fun a xs h => by
    rcases h with (h | ⟨o, h⟩) | h
    · exact .inl (.inl (e _ _ h))
    · exact .inl (.inr ⟨o, e _ _ h⟩)
    · exact .inr h
  have st : ∀ a xs, SqT K H a xs → SqT K H' a xs := fun a xs h => by
    rcases h with (h | ⟨o, h⟩) | h
    · exact .inl (.inl (e _ _ h))
    · exact .inl (.inr ⟨o, e _ _ h⟩)
    · exact .inr h
  cases h with
  | dat h1 h2 h3 h4 => exact .dat (Dp.exN e.n _ _ sl st h1) (Dp.exN e.n _ _ sl st h2) h3 h4
  | d0 h => exact .d0 (e _ _ h)
  | d1 h => exact .d1 (e _ _ h)
def spTellP (K : PySem.W.Frag) (gs : List Str) : Sp := fun xs H Q _ => ∃ a C fs vs, xs = [.ref a] ∧ PaAt H a C fs ∧ Cls K C ∧ (∀ g ∈ gs, NoAttr K C g) ∧ gs.map (fun g => fs.lookup g) = vs.map some ∧
  ∀ p H', p ≠ sysModules → H p = none → Ex H H' → H' p = some (.lst vs) → Q (.ref p) H'
structure RowD where
  c : Nat
  fs : List (Str × V)
  gs : List Str
  vs : List V
  B : V
def RowAt (Lm : Hp → Addr → Sp → Prop) (K : PySem.W.Frag) (cs : List Addr) (H : Hp) (x : V) (r : RowD) : Prop := ∃ t e f l, x = .ref t ∧ H t = some (.tup [.ref e, .ref f, .ref l, r.B]) ∧ PaAt H e (cs.getD r.c 0) r.fs ∧ Lm H f (spTellP K r.gs) ∧ H l = some (.lst r.vs) ∧ l ≠ sysModules
theorem RowAt.exN {Lm : Hp → Addr → Sp → Prop} (hL : ∀ H H' f sp, Lm H f sp → ExtN H H' → Lm H' f sp) {cs : List Addr} {x : V} {r : RowD} (h : RowAt Lm K cs H x r) (e : ExtN H H') : RowAt Lm K cs H' x r := by
  obtain ⟨t, e0, f, l, h1, h2, h3, h4, h5, h6⟩ := h
  exact ⟨t, e0, f, l, h1, e _ _ h2 (fun _ z => nomatch z), h3.exN e, hL _ _ _ _ h4 e, e _ _ h5 (fun _ z => nomatch z), h6⟩
end
end L3
end
section
namespace L3
open PySem PySem.Calls PyProof.Rows
end L3
namespace L3
open PySem PySem.Spec PyProof.Rows L2 LamX StX RZ
section
variable {K : PySem.W.Frag} {σ : L2.St} {H : Hp} {Q : VK} {te ta : TE} {t : TA} {C : Addr} {sp : Sp} {E : XK}
theorem s_star {R : List V → Hp → Prop} (h : te σ H fun x H1 => ∃ p xs, x = V.ref p ∧ (SqT K H1 p xs ∨ SqL K H1 p xs) ∧ t σ H1 fun ys H2 => R (xs ++ ys) H2) : tStar K te t σ H R := h
theorem s_mkCR (h : t σ H fun vs H1 => ∀ x dx, H1 x = none → H1 dx = none → dx ≠ x → sp (V.ref x :: vs) (upd (upd H1 dx (.own x)) x (.ins C dx [])) (fun v H2 => v = .non ∧ ap Q (.ref x) H2) E) : tMakeR C sp E t σ H Q := h
end
theorem TyA.exN {K : PySem.W.Frag} {H H' : Hp} {v : V} {t : Value} (h : TyA K H v t) (e : ExtN H H') : TyA K H' v t := by
  cases h with
  | x h =>
    refine .x ?_
    cases h with
    | base h =>
      refine .base ?_
      cases h with
      | non => exact .non
      | bl b => exact .bl b
      | int i => exact .int i
      | str z => exact .str z
      | flt z => exact .flt z
      | lst h => exact .lst (e _ _ h fun _ z => nomatch z)
      | frz h => exact .frz (e _ _ h fun _ z => nomatch z)
      | tup h => exact .tup (e _ _ h fun _ z => nomatch z)
      | dK h => exact .dK (e _ _ h fun _ z => nomatch z)
      | dT h => exact .dT (e _ _ h fun _ z => nomatch z)
      | ins h a b c d f => exact .ins (e _ _ h fun _ z => nomatch z) a b c d f
    | byt b => exact .byt b
    | set h => exact .set (e _ _ h fun _ z => nomatch z)
    | kList h c => exact .kList h c
    | kTuple h c => exact .kTuple h c
    | kDict h c => exact .kDict h c
    | fTuple h => exact .fTuple (e _ _ h fun _ z => nomatch z)
    | fDict h => exact .fDict (e _ _ h fun _ z => nomatch z)
  | fn h => exact .fn (e _ _ h fun _ z => by unfold FnV at z; cases z)
/-- a value that is no number -/
def NI (K : PySem.W.Frag) (H : Hp) (v : V) : Prop := (∃ b, v = .bl b) ∨ ∃ ty, TyA K H v ty ∧ PySem.W.kitOne K ty (.type "int") = some false
/-- a value that is none of a class -/
def NC (K : PySem.W.Frag) (H : Hp) (u : Value) (v : V) : Prop := ∃ ty, TyA K H v ty ∧ PySem.W.kitOne K ty u = some false
theorem NI.exN {K : PySem.W.Frag} {H H' : Hp} {v : V} (h : NI K H v) (e : ExtN H H') : NI K H' v := h.imp id fun ⟨ty, a, b⟩ => ⟨ty, a.exN e, b⟩
theorem NC.exN {K : PySem.W.Frag} {H H' : Hp} {u : Value} {v : V} (h : NC K H u v) (e : ExtN H H') : NC K H' u v := by
  obtain ⟨ty, a, b⟩ := h
  exact ⟨ty, a.exN e, b⟩
/-- no number, or one beyond its bounds -/
def OutS (K : PySem.W.Frag) (H : Hp) (x : V) (a b : Int) : Prop := NI K H x ∨ ∃ i, x = .int i ∧ ¬ (a ≤ i ∧ i ≤ b)
theorem OutS.exN {K : PySem.W.Frag} {H H' : Hp} {x : V} {a b : Int} (h : OutS K H x a b) (e : ExtN H H') : OutS K H' x a b := h.imp (fun h => h.exN e) id
section
variable {K : PySem.W.Frag} {σ : L2.St} {H : Hp} {Q : VK}
theorem s_lcZ {te : TE} {g : TG} {tt : TT} {vs : List Nat} {ta : TA} (h : ta σ H fun ws H1 => ∃ a b xs ys, ws = [.ref a, .ref b] ∧ ((SqL K H1 a xs ∧ SqL K H1 b ys ∧ LC (Itz K a b) g tt te vs σ H1 Q) ∨ (SqT K H1 a xs ∧ SqT K H1 b ys ∧ LC (ItzT K a b) g tt te vs σ H1 Q))) : tLc (iZipA K ta) g tt te vs σ H Q := h
end
def siz (n : Int) : Prop := 1 ≤ n ∧ n ≤ 10 ^ 30
def endsF : Int → List Int → List Int
  | _, [] => []
  | a, n :: r => (a + n) :: endsF (a + n) r
def endsOf (ns : List Int) : List Int := endsF 0 ns
def restsOf (ns : List Int) : List Int := (List.range ns.length).map fun i => ns.sum - (endsOf ns).getD i 0 + ns.getD i 0
def ckF (t1 t2 t3 : Addr) (tot : Int) : List (Str × V) := putF "rests" (.ref t3) (putF "total" (.int tot) (putF "ends" (.ref t2) (putF "sizes" (.ref t1) [])))
def Ck (C : Addr) (H : Hp) (q : Addr) (ns : List Int) : Prop := ∃ dx t1 t2 t3, H q = some (.ins C dx (ckF t1 t2 t3 ns.sum)) ∧ H t1 = some (.tup (ns.map V.int)) ∧ H t2 = some (.tup ((endsOf ns).map V.int)) ∧ H t3 = some (.tup ((restsOf ns).map V.int))
theorem Ck.exN {C : Addr} {H H' : Hp} {q : Addr} {ns : List Int} (h : Ck C H q ns) (e : ExtN H H') : Ck C H' q ns := by
  obtain ⟨dx, t1, t2, t3, a, b, c, d⟩ := h
  exact ⟨dx, t1, t2, t3, e _ _ a (fun _ z => nomatch z), e _ _ b (fun _ z => nomatch z), e _ _ c (fun _ z => nomatch z), e _ _ d (fun _ z => nomatch z)⟩
theorem Ck.ex {C : Addr} {H H' : Hp} {q : Addr} {ns : List Int} (h : Ck C H q ns) (e : Ex H H') : Ck C H' q ns := h.exN e.n
theorem Rz.ex' {C : Addr} {g : Str} {v : V} {H H' : Hp} {E : XK} (h : Rz C g v H E) (e : Ex H H') : Rz C g v H' E := fun d H2 hd e2 hx => h d H2 (e.free hd) (e.trans e2) hx
/-- what Chunks(*xs) comes to -/
def CkG (K : PySem.W.Frag) (CB CM : Addr) (H : Hp) (xs : List V) (G : List Int → Prop) (E : XK) : Prop := xs.length ≤ 100000 ∧
  ((∃ ns : List Int, xs = ns.map V.int ∧ (∀ n ∈ ns, siz n) ∧ ((ns.length ≤ 5000 ∧ G ns) ∨ (5000 < ns.length ∧ Rz2 CM "what" "most" (.str "chunks") (.int 5000) H E))) ∨
   ∃ (ns : List Int) (z : V) (rest : List V), xs = ns.map V.int ++ z :: rest ∧ (∀ n ∈ ns, siz n) ∧ OutS K H z 1 (10 ^ 30) ∧ Rz CB "value" z H E)
theorem CkG.ex {K : PySem.W.Frag} {CB CM : Addr} {H H' : Hp} {xs : List V} {G G' : List Int → Prop} {E : XK} (h : CkG K CB CM H xs G E) (e : Ex H H') (g : ∀ ns, G ns → G' ns) : CkG K CB CM H' xs G' E := by
  obtain ⟨h0, ⟨ns, h1, h2, h3⟩ | ⟨ns, z, rest, h1, h2, h3, h4⟩⟩ := h
  · exact ⟨h0, .inl ⟨ns, h1, h2, h3.imp (fun ⟨a, b⟩ => ⟨a, g _ b⟩) fun ⟨a, b⟩ => ⟨a, b.ex e⟩⟩⟩
  · exact ⟨h0, .inr ⟨ns, z, rest, h1, h2, h3.exN e.n, h4.ex' e⟩⟩
end L3
end
section
namespace L3
open PySem PySem.Spec PyProof.Rows L2 LamX
structure ClT (K : PySem.W.Frag) (mg : Str → Option Value) (x : Str) (C : Addr) : Prop where
  g : ∃ u, mg x = some u ∧ RelV (.ref C) u
  cl : Cls K C
  kC : PySem.W.kitOne K (.ref C) (.ref C) = some true
  ha : PySem.W.findIn K (.ref C) "__class__" = some (some (.builtin "object.__class__"))
  hn : PySem.W.specialIn K (.builtin "object.__class__") "__get__" = some (some (.builtin "getset_descriptor.__get__"))
  htk : PySem.W.takesIn K (.builtin "object.__class__") = some true
  hm : PySem.W.mroIn K C (.type "object") = some true
theorem ClT.ty {K : PySem.W.Frag} {mg : Str → Option Value} {x : Str} {C : Addr} (T : ClT K mg x C) {H : Hp} {p dx : Addr} {fs : List (Str × V)} (e : H p = some (.ins C dx fs)) : TyA K H (.ref p) (.ref C) := .x (.base (.ins e T.cl T.ha T.hn T.htk T.hm))
/-- neither a list nor a tuple -/
def NLT (K : PySem.W.Frag) (H : Hp) (v : V) : Prop := ∃ t, TyX K H v t ∧ PySem.W.kitAny K t [.type "list", .type "tuple"] = some false
theorem TyX.exN {K : PySem.W.Frag} {H H' : Hp} {v : V} {t : Value} (h : TyX K H v t) (e : ExtN H H') : TyX K H' v t := by
  cases h with
  | base h =>
    refine .base ?_
    cases h with
    | non => exact .non
    | bl b => exact .bl b
    | int i => exact .int i
    | str z => exact .str z
    | flt z => exact .flt z
    | lst h => exact .lst (e _ _ h fun _ z => nomatch z)
    | frz h => exact .frz (e _ _ h fun _ z => nomatch z)
    | tup h => exact .tup (e _ _ h fun _ z => nomatch z)
    | dK h => exact .dK (e _ _ h fun _ z => nomatch z)
    | dT h => exact .dT (e _ _ h fun _ z => nomatch z)
    | ins h a b c d f => exact .ins (e _ _ h fun _ z => nomatch z) a b c d f
  | byt b => exact .byt b
  | set h => exact .set (e _ _ h fun _ z => nomatch z)
  | kList h c => exact .kList h c
  | kTuple h c => exact .kTuple h c
  | kDict h c => exact .kDict h c
  | fTuple h => exact .fTuple (e _ _ h fun _ z => nomatch z)
  | fDict h => exact .fDict (e _ _ h fun _ z => nomatch z)
theorem NLT.exN {K : PySem.W.Frag} {H H' : Hp} {v : V} (h : NLT K H v) (e : ExtN H H') : NLT K H' v := by
  obtain ⟨t, a, b⟩ := h
  exact ⟨t, L3.TyX.exN a e, b⟩
end L3
end
section
namespace L3
open PySem PySem.Spec PyProof.Rows L2 NumText
theorem strOf_cases (n : Int) : (∃ m : Nat, n = (m : Int) ∧ (strOf n).cps.toList = TL.numL m) ∨ ∃ m : Nat, 0 < m ∧ n = -(m : Int) ∧ (strOf n).cps.toList = 45 :: TL.numL m := by
  rcases Int.lt_or_le n 0 with h | h
  · refine .inr ⟨n.natAbs, by omega, by omega, ?_⟩
    have e : n = -((n.natAbs : Nat) : Int) := by omega
    have := strOf_neg (m := n.natAbs) (by omega)
    rw [← e] at this
    exact this
  · refine .inl ⟨n.toNat, by omega, ?_⟩
    have e : n = ((n.toNat : Nat) : Int) := by omega
    have := strOf_nat n.toNat
    rw [← e] at this
    exact this
theorem numL_45 (m : Nat) : 45 ∉ TL.numL m := TL.numL_free (.inl (by decide))
theorem head_45 (m : Nat) : (TL.numL m).head? ≠ some 45 := fun h => by
  obtain ⟨r, e⟩ := head45 h
  exact numL_45 m (by rw [e]; exact List.mem_cons_self)
theorem val_strOf (n : Int) : valOf (strOf n) = n := by
  unfold valOf
  rcases strOf_cases n with ⟨m, hn, e⟩ | ⟨m, _, hn, e⟩
  · rw [e, if_neg (head_45 m), TL.numL_val]; exact hn.symm
  · rw [e, if_pos (show (45 :: TL.numL m).head? = some 45 from rfl)]
    show -((digitsVal (TL.numL m) : Nat) : Int) = n
    rw [TL.numL_val]; exact hn.symm
theorem figs_strOf (n : Int) : (figsOf (strOf n)).cps.toList = TL.numL n.natAbs := by
  rcases strOf_cases n with ⟨m, hn, e⟩ | ⟨m, _, hn, e⟩
  · rw [figs_pos (by rw [e]; exact head_45 m), e, hn]; rfl
  · rw [figs_neg e, hn]; congr 1; omega
theorem all_digits {l : List Nat} (h : AllDigits l) : l.all isDig = true := List.all_eq_true.mpr fun c hc => (isDig_iff c).mpr (h c hc)
theorem figB_strOf {n : Int} (h : n.natAbs < 10 ^ 4000) : figB (strOf n) = true := by
  have e := figs_strOf n
  have ne : (figsOf (strOf n)).cps.toList ≠ [] := by rw [e]; exact TL.numL_ne _
  have ad : (figsOf (strOf n)).cps.toList.all isDig = true := by rw [e]; exact all_digits (TL.numL_digits _)
  have hb := str_back ne ad
  rw [val_strOf, decide_eq_true rfl] at hb
  have l1 := len_codes (figsOf (strOf n))
  rw [e] at l1
  have l2 := TL.numL_len (n := n.natAbs) (k := 4000) (by decide) h
  have l3 : 0 < (TL.numL n.natAbs).length := List.length_pos_iff.mpr (TL.numL_ne _)
  unfold figB
  rw [← hb, ad, decide_eq_true (show 1 ≤ ((figsOf (strOf n)).length : Int) by omega), decide_eq_true (show ((figsOf (strOf n)).length : Int) ≤ 4000 by omega)]
  rfl
theorem digits_lt (l : List Nat) (h : AllDigits l) : digitsVal l < 10 ^ l.length := by
  have : ∀ n (l : List Nat), l.length = n → AllDigits l → digitsVal l < 10 ^ n := by
    intro n
    induction n with
    | zero => intro l hl _; rw [List.length_eq_zero_iff.mp hl]; decide
    | succ n ih =>
      intro l hl ha
      have hne : l ≠ [] := fun z => by rw [z] at hl; cases hl
      have hd : l = l.dropLast ++ [l.getLast hne] := (List.dropLast_concat_getLast hne).symm
      generalize l.getLast hne = c at hd
      generalize l.dropLast = es at hd
      subst hd
      have hc := ha c (by simp)
      have := ih es (by simp at hl; omega) fun d hd => ha d (by simp [hd])
      rw [val_snoc, Nat.pow_succ]
      omega
  exact this _ l rfl h
theorem join_mem {S : List Nat} : ∀ {ps : List (List Nat)} {p : List Nat}, p ∈ ps → (∀ c ∈ p, c ∈ TL.joinL S ps) ∧ p.length ≤ (TL.joinL S ps).length
  | [], _, h => by cases h
  | [q], p, h => by rw [List.mem_singleton.mp h]; exact ⟨fun c hc => hc, Nat.le_refl _⟩
  | q :: r :: rs, p, h => by
    show (∀ c ∈ p, c ∈ q ++ (S ++ TL.joinL S (r :: rs))) ∧ p.length ≤ (q ++ (S ++ TL.joinL S (r :: rs))).length
    rcases List.mem_cons.mp h with rfl | h
    · exact ⟨fun c hc => List.mem_append_left _ hc, by simp⟩
    · obtain ⟨a, b⟩ := join_mem (S := S) h
      exact ⟨fun c hc => List.mem_append_right _ (List.mem_append_right _ (a c hc)), by simp; omega⟩
def Pg (n : Nat) (z : Str) : Prop := z.length ≤ n ∧ ∀ c ∈ z.cps.toList, c < 1114112
theorem Pg.mono {n m : Nat} {z : Str} (h : Pg n z) (hm : n ≤ m) : Pg m z := ⟨Nat.le_trans h.1 hm, h.2⟩
theorem Pg.app {n m : Nat} {a b : Str} (h1 : Pg n a) (h2 : Pg m b) : Pg (n + m) (a ++ b) := by
  refine ⟨by rw [len_app]; have := h1.1; have := h2.1; omega, fun c hc => ?_⟩
  have e : (a ++ b).cps.toList = a.cps.toList ++ b.cps.toList := TL.tl_append a b
  rw [e] at hc
  rcases List.mem_append.mp hc with hc | hc
  · exact h1.2 c hc
  · exact h2.2 c hc
theorem pg_strOf {i : Int} {k : Nat} (hk : 0 < k) (h : i.natAbs < 10 ^ k) : Pg (k + 1) (strOf i) := by
  refine ⟨strOf_len hk h, fun c hc => ?_⟩
  have dg : ∀ m, ∀ c ∈ TL.numL m, c < 1114112 := fun m c hc => by
    have := TL.numL_digits m c hc
    omega
  rcases strOf_cases i with ⟨m, _, e⟩ | ⟨m, _, _, e⟩
  · rw [e] at hc; exact dg m c hc
  · rw [e] at hc
    rcases List.mem_cons.mp hc with rfl | hc
    · decide
    · exact dg m c hc
theorem val_bound {z : Str} {k : Nat} (h : (figsOf z).cps.toList.all isDig = true) (hz : z.length ≤ k) : (valOf z).natAbs < 10 ^ k := by
  have e2 := len_codes z
  have p : ∀ j, j ≤ k → 10 ^ j ≤ 10 ^ k := fun j hj => Nat.pow_le_pow_right (by decide) hj
  unfold valOf
  by_cases hn : z.cps.toList.head? = some 45
  · rw [if_pos hn]
    obtain ⟨r, hr⟩ := head45 hn
    rw [figs_neg hr] at h
    have := digits_lt r (digits_all h)
    rw [hr] at e2 ⊢
    show (-((digitsVal r : Nat) : Int)).natAbs < _
    rw [Int.natAbs_neg, Int.natAbs_natCast]
    exact Nat.lt_of_lt_of_le this (p _ (by simp at e2; omega))
  · rw [if_neg hn]
    rw [figs_pos hn] at h
    have := digits_lt _ (digits_all h)
    rw [Int.natAbs_natCast]
    exact Nat.lt_of_lt_of_le this (p _ (by omega))
end L3
end
section
namespace L3
open PySem PySem.Spec PyProof.Rows L2 LamX ClX
/-- no text: another value, or a fraction -/
inductive NoS (C : Addr) (H : Hp) : V → Prop
  | non : NoS C H .non
  | bl (b : Bool) : NoS C H (.bl b)
  | int (i : Int) : NoS C H (.int i)
  | tup {p : Addr} {xs : List V} : H p = some (.tup xs) → NoS C H (.ref p)
  | lst {p : Addr} {xs : List V} : H p = some (.lst xs) → NoS C H (.ref p)
  | dic {p : Addr} {kvs : List (Key × V)} : H p = some (.dK kvs) → NoS C H (.ref p)
  | rt {p : Addr} {o u : Int} : Rt C H p o u → NoS C H (.ref p)
theorem NoS.exN {C : Addr} {H H' : Hp} {v : V} (h : NoS C H v) (e : ExtN H H') : NoS C H' v := by
  cases h with
  | non => exact .non
  | bl b => exact .bl b
  | int b => exact .int b
  | tup h => exact .tup (e _ _ h fun _ z => nomatch z)
  | lst h => exact .lst (e _ _ h fun _ z => nomatch z)
  | dic h => exact .dic (e _ _ h fun _ z => nomatch z)
  | rt h => exact .rt (h.exN e)
def spFig : Sp := fun vs H Q _ => ∃ z, vs = [.str z] ∧ z.length ≤ 100000 ∧ ∀ H', Ex H H' → Q (.bl (figB z)) H'
/-- what hears a reading -/
def TTr (C CT : Addr) : (XK → Hp → VK → Prop) → Hp → VK → Prop := fun tl H Q => ∀ (W : XK) (S : VK),
  (∀ cls d H', (∃ dd l w, cls = .ref CT ∧ d = some dd ∧ H' dd = some (.xd [("word", w), ("line", l)]) ∧ ∀ p H2, H' p = none → Ex H' H2 → H2 p = some (.lst [l, w]) → Q (.ref p) H2) → W cls d H') →
  (∀ q o u H', Rt C H' q o u → (∀ p H2, H' p = none → Ex H' H2 → H2 p = some (.tup [.int o, .int u]) → Q (.ref p) H2) → S (.ref q) H') → tl W H S
end L3
namespace L3
open PySem PySem.Spec PyProof.Rows L2 LamX ClX
section
variable {K : PySem.W.Frag} {σ : L2.St} {H H' : Hp} {Q : VK} {C CT : Addr} {E : XK} {te : TE}
/-- [x for x in xs if t] where t is false each time -/
theorem lcNone {Tt : List (Addr × Str)} {a : Addr} {xs : List V} {j : Nat} {tt : TT} {vs : List Nat} (ha : H a = some (.lst xs)) (ht : Tabs Tt H) (hw : ∀ x, wipe ((wipe σ vs).set j (some x)) vs = wipe σ vs)
    (step : ∀ x, x ∈ xs → ∀ (H1 : Hp) (R : Bool → Hp → Prop), ExtN H H1 → Tabs Tt H1 → (∀ H2, ExtN H1 H2 → Tabs Tt H2 → R false H2) → tt ((wipe σ vs).set j (some x)) H1 R)
    (k : ∀ D H2, ExtN H H2 → Tabs Tt H2 → H2 D = some (.lst []) → Q (.ref D) H2) : LC (Itl K a) (gName j) tt te vs σ H Q := by
  intro D hD
  have e0 : Ex H (upd H D (.lst [])) := ex_new hD
  refine lc_list (K := K) (a := a) (xs := xs) (fun n H1 => ExtN H H1 ∧ Tabs Tt H1 ∧ H1 D = some (.lst [])) ⟨e0.n, ht.ext e0, upd_same⟩ (fun n H1 _ ⟨e, _⟩ => .inl (.inl (e _ _ ha fun _ z => nomatch z))) (fun n x H1 hx ⟨e, t1, h1⟩ => ?_) (fun H1 ⟨e, t1, h1⟩ => k D H1 e t1 h1)
  refine ⟨hw _, step x (List.mem_of_getElem? hx) H1 _ e t1 fun H2 e2 t2 => ?_⟩
  exact iteF ⟨e.trans e2, t2, e2 _ _ h1 fun _ z => nomatch z⟩
end
def bas : Int := (10 : Int) ^ (Int.toNat 30) - 1
def far (i : Nat) : Int := bas ^ (i + 1)
end L3
end
section
namespace L3
open PySem PySem.NumText PySem.Spec PyProof.Rows L2
theorem splC_facts (s : Nat) : ∀ (l acc : List Nat), s ∉ acc → TL.spl [s] 0 acc l ≠ [] ∧ TL.joinL [s] (TL.spl [s] 0 acc l) = acc ++ l ∧ ∀ p ∈ TL.spl [s] 0 acc l, s ∉ p
  | [], acc, h => by
    rw [TL.spl_nil]
    refine ⟨by simp, by simp [TL.joinL], fun p hp => ?_⟩
    rw [List.mem_singleton.mp hp]; exact h
  | c :: r, acc, h => by
    by_cases hc : c = s
    · subst hc
      rw [TL.spl_hit (by unfold TL.pre; simp)]
      obtain ⟨n1, n2, n3⟩ := splC_facts c r [] (by simp)
      refine ⟨by simp, ?_, fun p hp => ?_⟩
      · show TL.joinL [c] (acc :: TL.spl [c] 0 [] r) = _
        cases hs : TL.spl [c] 0 [] r with
        | nil => exact absurd hs n1
        | cons q qs =>
          rw [hs] at n2
          show acc ++ ([c] ++ TL.joinL [c] (q :: qs)) = _
          rw [n2]; simp
      · rcases List.mem_cons.mp hp with rfl | hp
        · exact h
        · exact n3 p hp
    · rw [TL.spl_miss (by unfold TL.pre; simp [hc])]
      obtain ⟨n1, n2, n3⟩ := splC_facts s r (acc ++ [c]) (by
        intro z
        rcases List.mem_append.mp z with z | z
        · exact h z
        · rw [List.mem_singleton] at z; exact hc z.symm)
      exact ⟨n1, by rw [n2]; simp, n3⟩
abbrev wds (z : Str) : List Str := Txt.split z " "
theorem wds_codes (z : Str) : (wds z).map TL.tl = TL.spl [32] 0 [] z.cps.toList := by
  have e : TL.tl (" " : Str) = [32] := by decide +kernel
  have := TL.split_spl z " " (by rw [e]; simp) (TL.kind_ok (by decide +kernel))
  rw [e] at this
  exact this
theorem wds_facts (z : Str) : wds z ≠ [] ∧ TL.joinL [32] ((wds z).map TL.tl) = z.cps.toList ∧ ∀ p ∈ wds z, 32 ∉ p.cps.toList ∧ p.length ≤ z.length ∧ ∀ c ∈ p.cps.toList, c ∈ z.cps.toList := by
  obtain ⟨a, b, c⟩ := splC_facts 32 z.cps.toList [] (by simp)
  rw [← wds_codes] at a b c
  rw [List.nil_append] at b
  refine ⟨fun q => a (by rw [q]; rfl), b, fun p hp => ?_⟩
  have hm : TL.tl p ∈ (wds z).map TL.tl := List.mem_map.mpr ⟨p, hp, rfl⟩
  obtain ⟨m1, m2⟩ := join_mem (S := [32]) hm
  rw [b] at m1 m2
  refine ⟨c _ hm, ?_, m1⟩
  rw [← len_codes, ← len_codes z]
  exact m2
theorem wds_len (z : Str) : (wds z).length ≤ z.length + 1 := by
  have key : ∀ l acc : List Nat, (TL.spl [32] 0 acc l).length ≤ l.length + 1 := by
    intro l
    induction l with
    | nil => intro acc; rw [TL.spl_nil]; simp
    | cons c r ih =>
      intro acc
      by_cases hc : c = 32
      · subst hc
        rw [TL.spl_hit (by unfold TL.pre; rfl)]
        have := ih []
        simp only [List.length_cons]
        show (TL.spl [32] 0 [] r).length + 1 ≤ _
        omega
      · rw [TL.spl_miss (by unfold TL.pre; simp [hc])]
        have := ih (acc ++ [c])
        simp only [List.length_cons]
        omega
  have := key z.cps.toList []
  rw [← wds_codes, List.length_map, len_codes] at this
  exact this
theorem wds_of {z : Str} (ps : List (List Nat)) (hne : ps ≠ []) (h : z.cps.toList = TL.joinL [32] ps) (hp : ∀ p ∈ ps, 32 ∉ p) : (wds z).map TL.tl = ps := by
  rw [wds_codes, h]
  exact TL.spl_join hne hp
/-- joined, then cut -/
theorem wds_join {ps : List Str} (hne : ps ≠ []) (hp : ∀ p ∈ ps, 32 ∉ p.cps.toList) : wds (Txt.join " " ps) = ps := by
  refine TL.map_tl_inj (wds_of (ps.map TL.tl) (by simpa using hne) ?_ fun p h => ?_)
  · have e : TL.tl (" " : Str) = [32] := by decide +kernel
    show TL.tl (Txt.join " " ps) = _
    rw [TL.join_eq, TL.tl_join, e]
  · obtain ⟨q, hq, rfl⟩ := List.mem_map.mp h
    exact hp q hq
theorem wds_one {z : Str} (h : 32 ∉ z.cps.toList) : wds z = [z] := TL.map_tl_inj (wds_of [z.cps.toList] (by simp) rfl (fun p hp => by rw [List.mem_singleton.mp hp]; exact h))
end L3
end
section
namespace L3
open PySem PySem.NumText PySem.Spec PyProof.Rows L2 LamX RZ
section
variable {K : PySem.W.Frag} {σ : L2.St} {H : Hp} {Q : VK} {g : TG} {tb : TS} {D : Ends} {ta to te : TE} {t : TA}
/-- a walk over anything -/
def ForJ (J : It) (g : TG) (tb : TS) (D : Ends) (σ : L2.St) (H : Hp) : Prop := ∃ W : Nat → Nat → L2.St → Hp → Prop, (∃ m, W 0 m σ H) ∧ ∀ (i m : Nat) (σ : L2.St) (H : Hp), W i m σ H → J.stop i H ∧ D.nx σ H ∨ J.go i H ∧
  ∃ N, (∀ (σ' : L2.St) (H' : Hp), N σ' H' → ∃ m', m' < m ∧ W (i + 1) m' σ' H') ∧ ∀ (x : V) (H' : Hp), J.yld i H x H' → g x σ H' fun σ2 H2 => tb { nx := N, rt := D.rt, bk := D.nx, ct := N } σ2 H2
theorem s_forE (h : t σ H fun ws H1 => ∃ a xs, ws = [.ref a] ∧ SqL K H1 a xs ∧ ForJ (Ite K a) g tb D σ H1) : tFor (iEnum K t) g tb D σ H := h
theorem s_forZ (h : t σ H fun ws H1 => ∃ a b xs ys, ws = [.ref a, .ref b] ∧ ((SqL K H1 a xs ∧ SqL K H1 b ys ∧ ForJ (Itz K a b) g tb D σ H1) ∨ (SqT K H1 a xs ∧ SqT K H1 b ys ∧ ForJ (ItzT K a b) g tb D σ H1))) : tFor (iZipA K t) g tb D σ H := h
/-- for i, x in enumerate(xs) -/
theorem forEn {a : Addr} {xs : List V} (Pv : Nat → L2.St → Hp → Prop) (h0 : Pv 0 σ H) (hs : ∀ i σ H, Pv i σ H → H a = some (.lst xs))
    (hb : ∀ (i : Nat) x T σ H, xs[i]? = some x → Pv i σ H → H T = none → ∀ H1, Ex H H1 → (∀ b, b ≠ T → H1 b = H b) → H1 T = some (.tup [.int (i : Int), x]) → g (.ref T) σ H1 fun σ2 H2 => tb { nx := Pv (i + 1), rt := D.rt, bk := D.nx, ct := Pv (i + 1) } σ2 H2)
    (he : ∀ σ H, Pv xs.length σ H → D.nx σ H) : ForJ (Ite K a) g tb D σ H :=
  for_it walk_enum Pv h0 (fun i σ H _ h => .inl (.inl (hs i σ H h))) (fun i x σ H1 H2 hi hp hy => by
    obtain ⟨T, x', y', rfl, hT, rfl, hx, hy⟩ := hy
    cases hx
    exact hb i y' T σ H1 hy hp hT _ (ex_new hT) (fun b hb => upd_ne hb) upd_same) he
theorem s_splitW {z : Str} (hz : z.length ≤ 100000) (k : ∀ p H3, H p = none → Ex H H3 → H3 p = some (.lst ((wds z).map V.str)) → Q (.ref p) H3) :
    ∃ a b, V.str z = .str a ∧ [V.str " "] = [.str b] ∧ (b.length == 0) = false ∧ a.length + 2 ≤ sizeLine ∧ rNewStrs (Txt.split a b) H Q :=
  ⟨z, _, rfl, rfl, by decide +kernel, Nat.le_trans (Nat.add_le_add_right hz 2) (by decide +kernel), fun p hp => k p _ hp (ex_new hp) upd_same⟩
theorem s_joinL {l : Addr} {a : Str} {ys : List Str} (hl : H l = some (.lst (ys.map V.str))) (hz : (ys.map (·.length)).sum + ys.length * a.length ≤ 16777216) (k : Q (.str (Txt.join a ys)) H) :
    ∃ b p, ∃ zs : List Str, V.str a = .str b ∧ [V.ref l] = [.ref p] ∧ (SqL K H p (zs.map V.str) ∨ SqT K H p (zs.map V.str)) ∧ (zs.map (·.length)).sum + zs.length * b.length ≤ 16777216 ∧ Q (.str (Txt.join b zs)) H :=
  ⟨a, l, ys, rfl, rfl, .inl (.inl (.inl hl)), hz, k⟩
theorem s_orT (h : ta σ H fun x H1 => ∃ k, TruV K x H1 k ∧ if k = true then Q x H1 else te σ H1 Q) : tOrT K ta te σ H Q := h
end
section
variable {K : PySem.W.Frag} {σ : L2.St} {H : Hp} {Q : VK}
theorem s_lcTp {te ta : TE} {g : TG} {tt : TT} {vs : List Nat} (h : ta σ H fun x H1 => ∃ a, x = .ref a ∧ (∃ xs, SqT K H1 a xs) ∧ LC (Itt K a) g tt te vs σ H1 Q) : tLc (iTup K ta) g tt te vs σ H Q := h
/-- [f(x) for x in t if p(x)], t a tuple, by the places -/
theorem lcTI {te : TE} {a : Addr} {xs : List V} {j : Nat} {tt : TT} {vs : List Nat} (b : Nat → Bool) (f : Nat → V) (ha : H a = some (.tup xs)) (hz : xs.length < sizeLine) (hw : ∀ x, wipe ((wipe σ vs).set j (some x)) vs = wipe σ vs)
    (ht : ∀ (i : Nat) (x : V) (H1 : Hp) (R : Bool → Hp → Prop), xs[i]? = some x → Ex H H1 → R (b i) H1 → tt ((wipe σ vs).set j (some x)) H1 R) (he : ∀ (i : Nat) (x : V) (H1 : Hp) (R : VK), xs[i]? = some x → b i = true → Ex H H1 → (∀ H2, Ex H1 H2 → R (f i) H2) → te ((wipe σ vs).set j (some x)) H1 R)
    (k : ∀ D H2, H D = none → Ex H H2 → H2 D = some (.lst (((List.range xs.length).filter b).map f)) → Q (.ref D) H2) : LC (Itt K a) (gName j) tt te vs σ H Q := by
  intro D hD
  refine lc_tup (K := K) (a := a) (xs := xs) (fun n H1 => Ex H H1 ∧ H1 D = some (.lst (((List.range n).filter b).map f))) ⟨ex_new hD, upd_same⟩ (fun n H1 _ ⟨e, _⟩ => .inl (.inl (e _ _ ha))) (fun n x H1 hx ⟨e, h1⟩ => ?_) (fun H1 ⟨e, h1⟩ => k D H1 hD e h1)
  have hn : n < xs.length := (List.getElem?_eq_some_iff.mp hx).1
  have er : List.range (n + 1) = List.range n ++ [n] := List.range_succ
  refine ⟨hw _, ht n x H1 _ hx e ?_⟩
  cases hb : b n with
  | true =>
    refine iteT (he n x H1 _ hx hb e fun H2 e2 => ⟨_, e2 _ _ h1, ?_, fun c o hc => ?_, ?_⟩)
    · rw [List.length_map]
      exact Nat.lt_of_le_of_lt (Nat.le_trans (List.length_filter_le _ _) (by rw [List.length_range]; omega)) hz
    · rw [upd_ne (ne_of_none hc hD)]; exact e2 _ _ (e _ _ hc)
    · rw [upd_same, er, List.filter_append, List.map_append]
      simp [hb]
  | false =>
    refine iteF ⟨e, ?_⟩
    rw [er, List.filter_append]
    simpa [hb] using h1
end
theorem lt8000 {x : Int} (h0 : 0 ≤ x) (h1 : x ≤ 10 ^ 40) : x.natAbs < 2 ^ 8000 := by
  obtain ⟨m, rfl⟩ : ∃ m : Nat, x = (m : Int) := ⟨x.toNat, by omega⟩
  rw [Int.natAbs_natCast]
  have e : ((10 ^ 40 : Nat) : Int) = 10 ^ 40 := by decide +kernel
  rw [← e] at h1
  exact Nat.lt_of_le_of_lt (Int.ofNat_le.mp h1) (Nat.lt_of_lt_of_le (by decide +kernel : 10 ^ 40 < 2 ^ 200) (Nat.pow_le_pow_right (by decide) (by decide)))
theorem lt8000s {x : Int} (h0 : 0 ≤ x) (h1 : x ≤ 1000000) : x.natAbs < 2 ^ 8000 := lt8000 h0 (Int.le_trans h1 (by decide +kernel))
theorem penNf {H : Hp} {a q : Addr} {n : Nat} (p : Pen H a n) (h : H q = none) : q ≠ a := fun z => by
  obtain ⟨c, _, h1, _⟩ := p
  rw [z, h1] at h; cases h
def spNum : Sp := fun vs H Q _ => ∃ z a b, vs = [.str z, .int a, .int b] ∧ (z : Str).length ≤ 100000 ∧ ∀ H', Ex H H' → Q (if figB z = true ∧ a ≤ valOf z ∧ valOf z ≤ b then .int (valOf z) else .non) H'
end L3
end
section
namespace L3
open PySem PySem.NumText PySem.Spec PyProof.Rows L2 LamX RZ
section
variable {σ : L2.St} {H : Hp} {g : TG} {tb : TS} {D : Ends}
theorem s_forR1 {tr : TA} (h : tr σ H fun ws H1 => ∃ j : Int, ws = [.int j] ∧ -(2 ^ 62) ≤ j ∧ j < 2 ^ 62 ∧ ForJ (Itr 0 j.toNat) g tb D σ H1) : tFor (iRng1 tr) g tb D σ H := h
theorem forRg {lo : Int} {n : Nat} (Pv : Nat → L2.St → Hp → Prop) (h0 : Pv 0 σ H)
    (hb : ∀ (i : Nat) σ H, i < n → Pv i σ H → g (.int (lo + (i : Int))) σ H fun σ2 H2 => tb { nx := Pv (i + 1), rt := D.rt, bk := D.nx, ct := Pv (i + 1) } σ2 H2)
    (he : ∀ σ H, Pv n σ H → D.nx σ H) : ForJ (Itr lo n) g tb D σ H :=
  for_it walk_range Pv h0 (fun i σ H _ h => trivial) (fun i x σ H1 H2 hi hp hy => by
    obtain ⟨rfl, rfl⟩ := hy
    exact hb i σ _ hi hp) he
end
theorem joinL_len (S : List Nat) : ∀ ps : List (List Nat), (TL.joinL S ps).length ≤ (ps.map (·.length)).sum + ps.length * S.length
  | [] => by simp [TL.joinL]
  | [p] => by simp [TL.joinL]
  | p :: q :: r => by
    have ih := joinL_len S (q :: r)
    show (p ++ (S ++ TL.joinL S (q :: r))).length ≤ _
    simp only [List.length_append, List.map_cons, List.sum_cons, List.length_cons] at ih ⊢
    simp only [Nat.add_mul, Nat.one_mul] at ih ⊢
    omega
theorem join_len (a : Str) (ys : List Str) : (Txt.join a ys).length ≤ (ys.map (·.length)).sum + ys.length * a.length := by
  have h := joinL_len (TL.tl a) (ys.map TL.tl)
  have e : TL.tl (Txt.join a ys) = TL.joinL (TL.tl a) (ys.map TL.tl) := by rw [TL.join_eq, TL.tl_join]
  rw [← e, List.map_map, List.length_map] at h
  have e2 : (ys.map ((·.length) ∘ TL.tl)) = ys.map (·.length) := List.map_congr_left fun x _ => (TL.len_tl x).symm
  rw [e2, ← TL.len_tl, ← TL.len_tl] at h
  exact h
theorem sum_le {m : Nat} : ∀ {ys : List Str}, (∀ y ∈ ys, y.length ≤ m) → (ys.map (·.length)).sum ≤ m * ys.length
  | [], _ => by simp
  | y :: r, h => by
    have := sum_le fun y hy => h y (List.mem_cons_of_mem _ hy)
    have := h y List.mem_cons_self
    simp only [List.map_cons, List.sum_cons, List.length_cons, Nat.mul_add, Nat.mul_one]
    omega
theorem joinL_mem (S : List Nat) (c : Nat) : ∀ ps : List (List Nat), c ∈ TL.joinL S ps → c ∈ S ∨ ∃ p ∈ ps, c ∈ p
  | [], h => nomatch h
  | [p], h => .inr ⟨p, List.mem_singleton_self p, h⟩
  | p :: q :: r, h => by
    have h : c ∈ p ++ (S ++ TL.joinL S (q :: r)) := h
    rcases List.mem_append.mp h with h | h
    · exact .inr ⟨p, List.mem_cons_self, h⟩
    · rcases List.mem_append.mp h with h | h
      · exact .inl h
      · exact (joinL_mem S c (q :: r) h).imp id fun ⟨x, hx, hc⟩ => ⟨x, List.mem_cons_of_mem _ hx, hc⟩
theorem join_codes {a : Str} {ys : List Str} {c : Nat} (h : c ∈ (Txt.join a ys).cps.toList) : c ∈ a.cps.toList ∨ ∃ y ∈ ys, c ∈ y.cps.toList := by
  have e : TL.tl (Txt.join a ys) = TL.joinL (TL.tl a) (ys.map TL.tl) := by rw [TL.join_eq, TL.tl_join]
  have h : c ∈ TL.tl (Txt.join a ys) := h
  rw [e] at h
  refine (joinL_mem _ c _ h).imp id fun ⟨p, hp, hc⟩ => ?_
  obtain ⟨y, hy, rfl⟩ := List.mem_map.mp hp
  exact ⟨y, hy, hc⟩
/-- a plain text of at most m signs -/
def Pt (m : Nat) (z : Str) : Prop := z.length ≤ m ∧ ∀ c ∈ z.cps.toList, c < 1114112
def ptB (m : Nat) (z : Str) : Bool := decide (z.length ≤ m) && z.cps.toList.all fun c => decide (c < 1114112)
theorem pt_of {m : Nat} {z : Str} (h : ptB m z = true) : Pt m z := by
  unfold ptB at h
  simp only [Bool.and_eq_true, decide_eq_true_eq, List.all_eq_true] at h
  exact h
theorem pt_join {m n : Nat} {ys : List Str} (h : ∀ y ∈ ys, Pt m y) (hn : ys.length ≤ n) : Pt (m * n + n) (Txt.join " " ys) := by
  refine ⟨?_, fun c hc => ?_⟩
  · have h1 := join_len " " ys
    have h2 := sum_le fun y hy => (h y hy).1
    have h3 : m * ys.length ≤ m * n := Nat.mul_le_mul_left _ hn
    have e : (" " : Str).length = 1 := by decide +kernel
    rw [e] at h1
    omega
  · rcases join_codes hc with hc | ⟨y, hy, hc⟩
    · have e : (" " : Str).cps.toList = [32] := by decide +kernel
      rw [e, List.mem_singleton] at hc
      omega
    · exact (h y hy).2 c hc
theorem strOkO (s : String) : PyData.strOk (Str.ofString s) = true := by
  unfold PyData.strOk
  have e := ofString_codes s
  rw [← Array.all_toList, e, List.all_map]
  refine List.all_eq_true.mpr fun c _ => ?_
  show decide (c.toNat < 0x110000) = true
  refine decide_eq_true ?_
  rcases c.valid with h | ⟨_, h⟩
  · exact Nat.lt_trans h (by decide)
  · exact h
theorem strOkI (i : Int) : PyData.strOk (PyData.int i).shown = true := by
  show PyData.strOk (Str.ofString (toString i)) = true
  exact strOkO _
section
variable {K : PySem.W.Frag} {H : Hp} {Q : VK}
theorem log_le {n k : Nat} (h : n ≤ k) (hk : k < 2 ^ 1920) : n.log2 < 1920 := by
  rcases Nat.eq_zero_or_pos n with rfl | hp
  · decide
  · exact (Nat.log2_lt (by omega)).mpr (Nat.lt_of_le_of_lt h hk)
end
section
variable {K : PySem.W.Frag} {σ : L2.St} {H H' : Hp} {Q : VK} {C : Addr}
theorem s_stC {sp : Sp} {E : XK} {t : TA} (h : t σ H fun vs H2 => sp vs H2 Q E) : tSt C sp E (tC (.ref C)) t σ H Q := ⟨rfl, h⟩
theorem s_cmC {sp : Sp} {E : XK} {t : TA} (h : t σ H fun vs H2 => sp (.ref C :: vs) H2 Q E) : ClX.tCMeth C sp E (tC (.ref C)) t σ H Q := ⟨rfl, h⟩
theorem Ck.keep {q a : Addr} {n : Nat} {ns : List Int} (h : Ck C H q ns) (p : Pen H a n) (k : ∀ b o, b ≠ a → H b = some o → H' b = some o) : Ck C H' q ns := by
  obtain ⟨dx, t1, t2, t3, a1, b, c, d⟩ := h
  have nn : ∀ {q : Addr} {o : HO}, H q = some o → (∀ c n, o ≠ PenO a c n) → H' q = some o := fun {q o} e z => k _ _ (p.ne e z) e
  exact ⟨dx, t1, t2, t3, nn a1 (fun c n z => by unfold PenO at z; cases z), nn b (fun c n z => by unfold PenO at z; cases z), nn c (fun c n z => by unfold PenO at z; cases z), nn d (fun c n z => by unfold PenO at z; cases z)⟩
theorem lst_keep {q a : Addr} {n : Nat} {xs : List V} (h : H q = some (.lst xs)) (p : Pen H a n) (k : ∀ b o, b ≠ a → H b = some o → H' b = some o) : H' q = some (.lst xs) := k _ _ (p.ne h (fun c n z => by unfold PenO at z; cases z)) h
theorem tup_keep {q a : Addr} {n : Nat} {xs : List V} (h : H q = some (.tup xs)) (p : Pen H a n) (k : ∀ b o, b ≠ a → H b = some o → H' b = some o) : H' q = some (.tup xs) := k _ _ (p.ne h (fun c n z => by unfold PenO at z; cases z)) h
theorem dk_keep {q a : Addr} {n : Nat} {xs : List (Key × V)} (h : H q = some (.dK xs)) (p : Pen H a n) (k : ∀ b o, b ≠ a → H b = some o → H' b = some o) : H' q = some (.dK xs) := k _ _ (p.ne h (fun c n z => by unfold PenO at z; cases z)) h
end
theorem _root_.L2.SqL.exL {K : PySem.W.Frag} {H H' : Hp} {a : Addr} {xs : List V} (h : SqL K H a xs) (e : Ex H H') : SqL K H' a xs := by
  rcases h with (h | ⟨o, h⟩) | h
  · exact .inl (.inl (e _ _ h))
  · exact .inl (.inr ⟨o, e _ _ h⟩)
  · exact .inr h
theorem _root_.L2.SqT.exT {K : PySem.W.Frag} {H H' : Hp} {a : Addr} {xs : List V} (h : SqT K H a xs) (e : Ex H H') : SqT K H' a xs := by
  rcases h with (h | ⟨o, h⟩) | h
  · exact .inl (.inl (e _ _ h))
  · exact .inl (.inr ⟨o, e _ _ h⟩)
  · exact .inr h
theorem _root_.L2.Dp.ex' {K : PySem.W.Frag} {H H' : Hp} {v : V} {d : PyData} (h : Dp K H v d) (e : Ex H H') : Dp K H' v d := L3.Dp.exN e.n d v (fun a xs h => h.exL e) (fun a xs h => h.exT e) h
theorem KX.join {X : Cx} {K : PySem.W.Frag} {o e : Expr} {to te : TE} {apos pos : Pos} (hK : X.K = K) (ho : PE X o to) (he : PE X e te) (hs : starEach [e] X.env = [(false, eval e X.env)] := by rfl) (hbase : attributeBase o "join" X.env (eval o X.env) = eval o X.env := by rfl) (hline : (apos.endLine == pos.line) = true := by rfl) :
    PE X (.Call (.Attribute o "join" apos) [e] [] pos) (tM1 (fun x xs H Q => ∃ a p, ∃ ys : List Str, x = .str a ∧ xs = [.ref p] ∧ (SqL K H p (ys.map V.str) ∨ SqT K H p (ys.map V.str)) ∧
      (ys.map (·.length)).sum + ys.length * a.length ≤ 16777216 ∧ Q (.str (Txt.join a ys)) H) to te) := by
  subst hK
  exact pe_join ho he hs hbase hline
end L3
end
section
namespace L3
open PySem PySem.NumText PySem.Spec PyProof.Rows L2 LamX RZ
theorem s_mt {C : Addr} {m : Str} {sp : Sp} {dvs : List V} {E : XK} {ta : TE} {t : TA} {σ : L2.St} {H : Hp} {Q : VK} (h : ta σ H fun x H1 => ∃ a dx fs, x = .ref a ∧ H1 a = some (.ins C dx fs) ∧ fs.lookup m = none ∧ t σ H1 fun vs H2 => sp (x :: (vs ++ dvs)) H2 Q E) : tMeth C m sp dvs E ta t σ H Q := h
end L3
end
section
namespace L2
open PySem PySem.Spec PyProof.Rows HT
end L2
namespace HT
open PySem PySem.Spec PyProof.Rows L2
end HT
namespace L3
open PySem PySem.NumText PySem.Spec PyProof.Rows L2 LamX RZ
section
variable {X : Cx}
def tRevT (K : PySem.W.Frag) (te : TE) : TE := fun σ H Q => te σ H fun x H1 => ∃ a xs, x = .ref a ∧ SqT K H1 a xs ∧ ∀ p, H1 p = none → Q (.ref p) (upd H1 p (.tup xs.reverse))
theorem KX.revL {K : PySem.W.Frag} {e : Expr} {te : TE} {k : Nat} {p1 p2 p3 pos : Pos} (hK : X.K = K) (he : PE X e te) : PE X (.Subscript e (.Slice none none (some (.UnaryOp .USub (.Constant (.int 1) k p1) p2)) p3) pos) (L2.tRevL K te) := by subst hK; exact L2.pe_revL he
end
section
variable {K : PySem.W.Frag} {te : TE} {σ : L2.St} {H : Hp} {Q : VK}
theorem s_revT (h : te σ H fun x H1 => ∃ a xs, x = .ref a ∧ SqT K H1 a xs ∧ ∀ p, H1 p = none → Q (.ref p) (upd H1 p (.tup xs.reverse))) : tRevT K te σ H Q := h
theorem s_revL (h : te σ H fun x H1 => ∃ a xs, x = .ref a ∧ SqL K H1 a xs ∧ ∀ p, H1 p = none → Q (.ref p) (upd H1 p (.lst xs.reverse))) : L2.tRevL K te σ H Q := h
end
end L3
end
section
namespace L3
open PySem PySem.NumText PySem.Spec PyProof.Rows L2 LamX RZ
theorem KX.star {X : Cx} {K : PySem.W.Frag} {e : Expr} {es : List Expr} {te : TE} {t : TA} {p : Pos} (hK : X.K = K) (he : PE X e te) (hr : PA X es t) (hs : starEach (.Starred e p :: es) X.env = (true, eval e X.env) :: starEach es X.env := by rfl) : PA X (.Starred e p :: es) (StX.tStar K te t) := by
  subst hK
  exact StX.pa_star he hr hs
def CkTo (C CM : Addr) (H : Hp) (ns : List Int) (Q : VK) (E : XK) : Prop := (ns.length ≤ 5000 ∧ ∀ r H', Ex H H' → Ck C H' r ns → Q (.ref r) H') ∨ (5000 < ns.length ∧ Rz2 CM "what" "most" (.str "chunks") (.int 5000) H E)
theorem CkTo.g {K : PySem.W.Frag} {C CB CM : Addr} {H : Hp} {ns : List Int} {Q : VK} {E : XK} (h : CkTo C CM H ns Q E) (hl : ns.length ≤ 100000) (hs : ∀ n ∈ ns, siz n) : CkG K CB CM H (ns.map V.int) (fun ns => ∀ q H', H q = none → Ex H H' → Ck C H' q ns → Q (.ref q) H') E :=
  ⟨by rw [List.length_map]; exact hl, .inl ⟨ns, rfl, hs, h.imp (fun ⟨a, b⟩ => ⟨a, fun q H' _ e c => b q H' e c⟩) id⟩⟩
end L3
end
section
namespace L3
open PySem PySem.NumText PySem.Spec PyProof.Rows L2 LamX RZ
def ErP (g : Str) (tag : Str) (c : Addr) (cls : Value) (d : Option Addr) (H' : Hp) (Q : VK) : Prop := ∃ dd v, cls = .ref c ∧ d = some dd ∧ H' dd = some (.xd [(g, v)]) ∧ ∀ p H2, H' p = none → Ex H' H2 → H2 p = some (.tup [.str tag, v]) → Q (.ref p) H2
def ErM (c : Addr) (cls : Value) (d : Option Addr) (H' : Hp) (Q : VK) : Prop := ∃ dd v1 v2, cls = .ref c ∧ d = some dd ∧ H' dd = some (.xd [("most", v2), ("what", v1)]) ∧ ∀ p H2, H' p = none → Ex H' H2 → H2 p = some (.tup [.str "many", v1, v2]) → Q (.ref p) H2
end L3
end
section
namespace L3
open PySem PySem.NumText PySem.Spec PyProof.Rows L2 LamX RZ
end L3
end
section
namespace L3
open PySem PySem.NumText PySem.Spec PyProof.Rows L2 LamX RZ
theorem atI_nat {α : Type} {xs : List α} {j : Nat} {v : α} (h : xs[j]? = some v) : atI xs (j : Int) = some v := by
  rw [atI_int (by omega) (by have := (List.getElem?_eq_some_iff.mp h).1; omega), Int.toNat_natCast]
  exact h
end L3
end
section
namespace L3
open PySem PySem.NumText PySem.Spec PyProof.Rows L2 LamX RZ
def Hds (H : Hp) : List Addr → List (List V) → Prop
  | [], [] => True
  | q :: qs, t :: ts => H q = some (.tup t) ∧ Hds H qs ts
  | _, _ => False
theorem Hds.imp {H H' : Hp} : ∀ {qs : List Addr} {ts : List (List V)}, Hds H qs ts → (∀ q t, H q = some (.tup t) → H' q = some (.tup t)) → Hds H' qs ts
  | [], [], _, _ => trivial
  | _ :: _, _ :: _, ⟨a, b⟩, k => ⟨k _ _ a, Hds.imp b k⟩
  | [], _ :: _, h, _ => h.elim
  | _ :: _, [], h, _ => h.elim
theorem Hds.app {H : Hp} {q : Addr} {t : List V} (hq : H q = some (.tup t)) : ∀ {qs : List Addr} {ts : List (List V)}, Hds H qs ts → Hds H (qs ++ [q]) (ts ++ [t])
  | [], [], _ => ⟨hq, trivial⟩
  | _ :: _, _ :: _, ⟨a, b⟩ => ⟨a, Hds.app hq b⟩
  | [], _ :: _, h => h.elim
  | _ :: _, [], h => h.elim
theorem Hds.len {H : Hp} : ∀ {qs : List Addr} {ts : List (List V)}, Hds H qs ts → qs.length = ts.length
  | [], [], _ => rfl
  | _ :: _, _ :: _, ⟨_, b⟩ => by rw [List.length_cons, List.length_cons, Hds.len b]
  | [], _ :: _, h => h.elim
  | _ :: _, [], h => h.elim
theorem Hds.dp {K : PySem.W.Frag} {H : Hp} {f : List V → List PyData} : ∀ {qs : List Addr} {ts : List (List V)}, Hds H qs ts → (∀ t ∈ ts, DpAll K H t (f t)) → DpAll K H (qs.map V.ref) (ts.map fun t => .tuple (f t))
  | [], [], _, _ => .nil
  | _ :: _, t :: _, ⟨a, b⟩, h => .cons (.tup (.inl (.inl a)) (h t List.mem_cons_self)) (Hds.dp b fun u hu => h u (List.mem_cons_of_mem _ hu))
  | [], _ :: _, h, _ => h.elim
  | _ :: _, [], h, _ => h.elim
def HdAt (H : Hp) (hl : Addr) (ts : List (List V)) : Prop := ∃ qs : List Addr, H hl = some (.lst (qs.map V.ref)) ∧ Hds H qs ts
theorem HdAt.ex {H H' : Hp} {hl : Addr} {ts : List (List V)} (h : HdAt H hl ts) (e : Ex H H') : HdAt H' hl ts := by
  obtain ⟨qs, a, b⟩ := h
  exact ⟨qs, e _ _ a, b.imp fun q t h => e _ _ h⟩
theorem HdAt.exN {H H' : Hp} {hl : Addr} {ts : List (List V)} (h : HdAt H hl ts) (e : ExtN H H') : HdAt H' hl ts := by
  obtain ⟨qs, a, b⟩ := h
  exact ⟨qs, e _ _ a (fun _ z => nomatch z), b.imp fun q t h => e _ _ h (fun _ z => nomatch z)⟩
theorem HdAt.one {H : Hp} {hl q : Addr} {t : List V} (a : H hl = some (.lst [.ref q])) (b : H q = some (.tup t)) : HdAt H hl [t] := ⟨[q], a, b, trivial⟩
/-- one more is heard and put behind -/
theorem HdAt.put {H : Hp} {hl q : Addr} {ts : List (List V)} {t : List V} {Q : VK} (h : HdAt H hl ts) (hn : ts.length < 900) (hq : H q = some (.tup t)) (k : ∀ H', (∀ b o, b ≠ hl → H b = some o → H' b = some o) → (∀ p n T, Wo T H p n → Wo T H' p n) → HdAt H' hl (ts ++ [t]) → Q .non H') : rAppend (.ref hl) [.ref q] H Q := by
  obtain ⟨qs, a, b⟩ := h
  have hl' := b.len
  refine s_app a (small1000 (by rw [List.length_map]; omega)) (k _ (fun c o hc e => by rw [upd_ne hc]; exact e) (fun p n T w => w.up a) ⟨qs ++ [q], by rw [upd_same, List.map_append]; rfl, ?_⟩)
  refine (b.app hq).imp fun c u hc => ?_
  rw [upd_ne (fun z => by rw [z, a] at hc; cases hc)]
  exact hc
theorem HdAt.sq {H : Hp} {hl : Addr} {ts : List (List V)} (h : HdAt H hl ts) {K : PySem.W.Frag} {R : Prop} (r : R) : tyV K "list" (.ref hl) H ∧ R := by
  obtain ⟨qs, a, _⟩ := h
  exact s_tyL a r
theorem HdAt.dp {K : PySem.W.Frag} {H : Hp} {hl : Addr} {ts : List (List V)} {f : List V → List PyData} (h : HdAt H hl ts) (k : ∀ t ∈ ts, DpAll K H t (f t)) : Dp K H (.ref hl) (.list (ts.map fun t => .tuple (f t))) := by
  obtain ⟨qs, a, b⟩ := h
  exact .lst (.inl (.inl a)) (b.dp k)
end L3
end
section
namespace L3
open PySem PySem.NumText PySem.Spec PyProof.Rows L2 LamX RZ ClX
def tStR (C : Addr) (sp : Sp) (E : XK) (ta : TE) (t : TA) : TE := fun σ H Q => ta σ H fun x H1 => x = .ref C ∧ t σ H1 fun vs H2 => sp vs.reverse H2 Q E
section
variable {K : PySem.W.Frag} {σ : L2.St} {H : Hp} {Q : VK} {C CB CC CM CT CN : Addr}
theorem s_stR {sp : Sp} {E : XK} {t : TA} (h : t σ H fun vs H2 => sp vs.reverse H2 Q E) : tStR C sp E (tC (.ref C)) t σ H Q := ⟨rfl, h⟩
/-- a value that is refused, heard with its text -/
structure ShV (H : Hp) (K : PySem.W.Frag) (v : V) (x : PyData) : Prop where
  dp : Dp K H v x
  sh : x.showable = true
  dep : x.depth ≤ 60
  len : x.shown.length ≤ sizeLine
  ok : PyData.strOk x.shown = true
theorem sqL_exN {H H' : Hp} {a : Addr} {xs : List V} (h : SqL K H a xs) (e : ExtN H H') : SqL K H' a xs := by
  rcases h with (h | ⟨o, h⟩) | h
  · exact .inl (.inl (e _ _ h fun _ z => nomatch z))
  · exact .inl (.inr ⟨o, e _ _ h fun _ z => nomatch z⟩)
  · exact .inr h
theorem sqT_exN {H H' : Hp} {a : Addr} {xs : List V} (h : SqT K H a xs) (e : ExtN H H') : SqT K H' a xs := by
  rcases h with (h | ⟨o, h⟩) | h
  · exact .inl (.inl (e _ _ h fun _ z => nomatch z))
  · exact .inl (.inr ⟨o, e _ _ h fun _ z => nomatch z⟩)
  · exact .inr h
theorem ShV.up {H H' : Hp} {v : V} {x : PyData} (h : ShV H K v x) (e : ExtN H H') : Dp K H' v x := Dp.exN e x v (fun _ _ z => sqL_exN z e) (fun _ _ z => sqT_exN z e) h.dp
theorem ShV.exN {H H' : Hp} {v : V} {x : PyData} (h : ShV H K v x) (e : ExtN H H') : ShV H' K v x := ⟨h.up e, h.sh, h.dep, h.len, h.ok⟩
theorem ShV.int {H : Hp} {i : Int} (h : i.natAbs ≤ 10 ^ 40) : ShV H K (.int i) (.int i) :=
  have h2 : i.natAbs.log2 < 1920 := log_le h (by decide +kernel)
  ⟨.int i, decide_eq_true h2, Nat.zero_le _, Nat.le_trans (fit_shown (x := .int i) (decide_eq_true h2)) (by decide +kernel), strOkI i⟩
end
section
variable {K : PySem.W.Frag} {σ : L2.St} {H : Hp} {Q : VK}
theorem atI_snoc {α : Type} (xs : List α) (y : α) : atI (xs ++ [y]) (-1) = some y := by
  unfold atI
  have hn : (xs ++ [y]).length = xs.length + 1 := by rw [List.length_append]; rfl
  have hi : ixN (xs ++ [y]).length (-1) = some xs.length := by
    unfold ixN
    rw [if_neg (by decide), if_pos (by omega), hn]
    congr 1
    omega
  rw [hi]
  simp
end
end L3
end
section
namespace L3
open PySem PySem.Spec PyProof.Rows L2 LamX ItX
def ItT (t it : Addr) : HO := .ext fun h => h.IsTupleIter it t 0
def iOwn (K : PySem.W.Frag) (C : Addr) (sp : Nat → Sp) (E : XK) (te : TE) : TI := fun σ H R => te σ H fun x H1 => ∃ a dx fs, x = .ref a ∧ H1 a = some (.ins C dx fs) ∧
  ∀ n, sp n [.ref a] H1 (fun v H2 => ∃ it t, v = .ref it ∧ H2 it = some (ItT t it) ∧ n ≤ it ∧ R (Itt K t) (dropH H2 it)) E
def SlO (sl : Addr) (lo hi st : Option Int) : HO := .ext fun h => ∃ vl vu vs, h.IsSliceOf sl vl vu vs ∧ IsPart vl lo ∧ IsPart vu hi ∧ IsPart vs st
def cut3 {α : Type} (xs : List α) (lo hi st : Option Int) : List α :=
  (sliceRange (sliceBounds lo hi st xs.length).1 (sliceBounds lo hi st xs.length).2.1 (sliceBounds lo hi st xs.length).2.2).filterMap (xs[·]?)
end L3
namespace HT
open PySem PySem.Spec PyProof.Rows L2
end HT
end
section
namespace PySem
open Sem (wp)
end PySem
namespace L3
open PySem PySem.Spec PyProof.Rows L2 LamX ItX
section
variable {X : Cx} {K : PySem.W.Frag} {C : Addr} {k j : Nat} {E : XK}
def tSlOwn (C : Addr) (sp : Sp) (E : XK) (te : TE) (tl th ts : TO) : TE := fun σ H Q => te σ H fun x H1 => tl σ H1 fun l H2 => th σ H2 fun u H3 => ts σ H3 fun k H4 => ∃ a dx fs, x = .ref a ∧ H4 a = some (.ins C dx fs) ∧ ∀ sl, H4 sl = none → sp [x, .ref sl] (upd H4 sl (SlO sl l u k)) Q E
/-- xs[lo:hi:st], a list -/
def tSl3 (K : PySem.W.Frag) (te : TE) (tl th ts : TO) : TE := fun σ H Q => te σ H fun x H1 => tl σ H1 fun l H2 => th σ H2 fun u H3 => ts σ H3 fun k H4 => ∃ a xs, x = .ref a ∧ SqL K H4 a xs ∧ k ≠ some 0 ∧ ∀ p, H4 p = none → ap Q (.ref p) (upd H4 p (.lst (cut3 xs l u k)))
end
section
variable {K : PySem.W.Frag} {C : Addr} {E : XK} {σ : L2.St} {H : Hp} {D : Ends} {Q : VK} {te : TE} {tl th ts : TO} {sp : Sp}
theorem s_slOwn (h : te σ H fun x H1 => tl σ H1 fun l H2 => th σ H2 fun u H3 => ts σ H3 fun k H4 => ∃ a dx fs, x = .ref a ∧ H4 a = some (.ins C dx fs) ∧ ∀ sl, H4 sl = none → sp [x, .ref sl] (upd H4 sl (SlO sl l u k)) Q E) : tSlOwn C sp E te tl th ts σ H Q := h
theorem s_sl3 (h : te σ H fun x H1 => tl σ H1 fun l H2 => th σ H2 fun u H3 => ts σ H3 fun k H4 => ∃ a xs, x = .ref a ∧ SqL K H4 a xs ∧ k ≠ some 0 ∧ ∀ p, H4 p = none → ap Q (.ref p) (upd H4 p (.lst (cut3 xs l u k)))) : tSl3 K te tl th ts σ H Q := h
theorem s_lcO {spn : Nat → Sp} {ee : TE} {g : TG} {tt : TT} {vs : List Nat} (h : te σ H fun x H1 => ∃ a dx fs, x = .ref a ∧ H1 a = some (.ins C dx fs) ∧ ∀ n, spn n [.ref a] H1 (fun v H2 => ∃ it t, v = .ref it ∧ H2 it = some (ItT t it) ∧ n ≤ it ∧ LC (Itt K t) g tt ee vs σ (dropH H2 it) Q) E) : tLc (iOwn K C spn E te) g tt ee vs σ H Q := h
end
end L3
end
section
namespace L3
open PySem PySem.NumText PySem.Spec PyProof.Rows L2 LamX RZ ClX
def ErU (K : PySem.W.Frag) (g : Str) (tag : Str) (c : Addr) (cls : Value) (d : Option Addr) (H' : Hp) (Q : VK) : Prop := ∃ dd v t, cls = .ref c ∧ d = some dd ∧ H' dd = some (.xd [(g, v)]) ∧ (∀ H2 (R : VK), Ex H' H2 → R (.str t) H2 → rReprU K [v] H2 R) ∧
  ∀ p H2, H' p = none → Ex H' H2 → H2 p = some (.tup [.str tag, .str t]) → Q (.ref p) H2
section
variable {K : PySem.W.Frag} {CB CC CM CT CN : Addr} {σ : L2.St} {H : Hp} {Q : VK}
/-- lists of ints, new ones -/
def LsAt (H : Hp) : List Addr → List (List Int) → Prop
  | [], [] => True
  | q :: qs, n :: ns => H q = some (.lst (n.map V.int)) ∧ LsAt H qs ns
  | _, _ => False
theorem LsAt.imp {H H' : Hp} : ∀ {qs : List Addr} {nss : List (List Int)}, LsAt H qs nss → (∀ q ∈ qs, ∀ n : List Int, H q = some (.lst (n.map V.int)) → H' q = some (.lst (n.map V.int))) → LsAt H' qs nss
  | [], [], _, _ => trivial
  | q :: _, _ :: _, ⟨a, b⟩, k => ⟨k q List.mem_cons_self _ a, LsAt.imp b fun q h => k q (List.mem_cons_of_mem _ h)⟩
  | [], _ :: _, h, _ => h.elim
  | _ :: _, [], h, _ => h.elim
theorem LsAt.app {H : Hp} {q : Addr} {n : List Int} (hq : H q = some (.lst (n.map V.int))) : ∀ {qs : List Addr} {nss : List (List Int)}, LsAt H qs nss → LsAt H (qs ++ [q]) (nss ++ [n])
  | [], [], _ => ⟨hq, trivial⟩
  | _ :: _, _ :: _, ⟨a, b⟩ => ⟨a, LsAt.app hq b⟩
  | [], _ :: _, h => h.elim
  | _ :: _, [], h => h.elim
theorem LsAt.len {H : Hp} : ∀ {qs : List Addr} {nss : List (List Int)}, LsAt H qs nss → qs.length = nss.length
  | [], [], _ => rfl
  | _ :: _, _ :: _, ⟨_, b⟩ => by rw [List.length_cons, List.length_cons, LsAt.len b]
  | [], _ :: _, h => h.elim
  | _ :: _, [], h => h.elim
def lsD (ns : List Int) : PyData := .list (ns.map PyData.int)
theorem LsAt.dp {H : Hp} : ∀ {qs : List Addr} {nss : List (List Int)}, LsAt H qs nss → DpAll K H (qs.map V.ref) (nss.map lsD)
  | [], [], _ => .nil
  | _ :: _, _ :: _, ⟨a, b⟩ => .cons (.lst (.inl (.inl a)) (dpInts _)) (LsAt.dp b)
  | [], _ :: _, h => h.elim
  | _ :: _, [], h => h.elim
end
end L3
end
section
namespace L3
open PySem PySem.Spec PySem.Calls PyProof.Rows PySem.W
end L3
namespace L3
open PySem PySem.NumText PySem.Spec PyProof.Rows L2 LamX RZ ClX
def tAny (n : Nat) (t : Nat → TE) : TE := fun σ H Q => ∃ j, j < n ∧ t j σ H Q
section
variable {X : Cx} {n : Nat}
theorem pe_any {e : Expr} {t : Nat → TE} (h : ∀ j, j < n → PE X e (t j)) : PE X e (tAny n t) := ⟨fun pins s σ H Q I q => let ⟨j, hj, q⟩ := q; (h j hj).run pins s σ H Q I q⟩
def rLcm : List V → Hp → VK → Prop := fun vs H Q => ∃ a b : Nat, vs = [.int a, .int b] ∧ a ≤ 100000 ∧ b ≤ 100000 ∧ Q (.int ((Nat.lcm a b : Nat) : Int)) H
theorem cr_lcm : CallR X (.builtin "math.lcm") rLcm := by
  intro pins s σ H vs us Q I r h
  obtain ⟨a, b, rfl, ha, hb, q⟩ := h
  obtain ⟨t, u, rfl⟩ := Vals.int2 r
  have e : (((Nat.lcm 1 (a : Int).natAbs).lcm (b : Int).natAbs : Nat) : Int) = ((Nat.lcm a b : Nat) : Int) := by rw [Int.natAbs_natCast, Int.natAbs_natCast, Nat.lcm_one_left]
  have hl : Nat.lcm a b ≤ 100000 * 100000 := Nat.le_trans (by unfold Nat.lcm; exact Nat.div_le_self _ _) (Nat.mul_le_mul ha hb)
  exact PySem.W.mg_lcm_v (by rw [Int.natAbs_natCast]; exact Nat.lt_of_le_of_lt ha (by decide)) (by rw [Int.natAbs_natCast]; exact Nat.lt_of_le_of_lt hb (by decide)) e (by rw [Int.natAbs_natCast]; exact Nat.lt_of_le_of_lt (PySem.W.mg_log (k := 40) (Nat.lt_of_le_of_lt hl (by decide))) (by decide +kernel)) ⟨.int _, H, I.tok _, ⟨_, rfl⟩, q⟩
end
end L3
namespace L2
open PySem PySem.Spec PyProof.Rows
end L2
end
section
namespace L3
open PySem PySem.NumText PySem.Spec PyProof.Rows L2 LamX RZ ClX
inductive RT
  | fx (s : Int)
  | dv (x y w : Int)
  | jn (lo : Bool) (a b : RT)
deriving DecidableEq
namespace RT
def n : RT → Nat
  | fx _ => 1
  | dv _ _ _ => 1
  | jn _ a b => a.n + b.n
def md : RT → Nat
  | fx _ => 1
  | dv _ _ w => w.toNat
  | jn _ a b => Nat.lcm a.md b.md
def ok : RT → Prop
  | fx s => 1 ≤ s ∧ s ≤ 10 ^ 30
  | dv x y w => (0 ≤ x ∧ x ≤ 24) ∧ (-1000 ≤ y ∧ y ≤ 1000) ∧ (1 ≤ w ∧ w ≤ 24)
  | jn _ a b => a.ok ∧ b.ok
/-- which class -/
def ix : RT → Nat
  | fx _ => 0
  | dv _ _ _ => 1
  | jn true _ _ => 2
  | jn false _ _ => 3
theorem n_pos : ∀ t : RT, 1 ≤ t.n
  | fx _ => Nat.le_refl 1
  | dv _ _ _ => Nat.le_refl 1
  | jn _ a b => by have := a.n_pos; show 1 ≤ a.n + b.n; omega
theorem md_pos : ∀ {t : RT}, t.ok → 1 ≤ t.md
  | fx _, _ => Nat.le_refl 1
  | dv _ _ w, h => by have := h.2.2.1; show 1 ≤ w.toNat; omega
  | jn _ a b, h => Nat.lcm_pos (md_pos h.1) (md_pos h.2)
theorem ix_lt (t : RT) : t.ix < 4 := by
  cases t with
  | fx _ => exact (show 0 < 4 by decide)
  | dv _ _ _ => exact (show 1 < 4 by decide)
  | jn lo a b =>
    cases lo
    · exact (show 3 < 4 by decide)
    · exact (show 2 < 4 by decide)
/-- in bounds, few parts, few residues -/
structure fine (t : RT) : Prop where
  ok : t.ok
  n : t.n ≤ 6
  md : t.md ≤ 5000
theorem md_l {lo : Bool} {a b : RT} (h : (jn lo a b).ok) : a.md ≤ (jn lo a b).md := Nat.le_of_dvd (md_pos h) (Nat.dvd_lcm_left _ _)
theorem md_r {lo : Bool} {a b : RT} (h : (jn lo a b).ok) : b.md ≤ (jn lo a b).md := Nat.le_of_dvd (md_pos h) (Nat.dvd_lcm_right _ _)
theorem fine.l {lo : Bool} {a b : RT} (h : (jn lo a b).fine) : a.fine := ⟨h.ok.1, by have h1 : a.n + b.n ≤ 6 := h.n; have := b.n_pos; omega, Nat.le_trans (md_l h.ok) h.md⟩
theorem fine.r {lo : Bool} {a b : RT} (h : (jn lo a b).fine) : b.fine := ⟨h.ok.2, by have h1 : a.n + b.n ≤ 6 := h.n; have := a.n_pos; omega, Nat.le_trans (md_r h.ok) h.md⟩
end RT
/-- the text's sign -/
def sgnS (lo : Bool) : Str := if lo then "&" else "|"
def PlAt (H : Hp) : RT → V → Prop
  | .fx s, v => ∃ p, v = .ref p ∧ H p = some (.tup [.str "fixed", .int s])
  | .dv x y w, v => ∃ p, v = .ref p ∧ H p = some (.tup [.str "divided", .int x, .int y, .int w])
  | .jn lo a b, v => ∃ p u1 u2, v = .ref p ∧ H p = some (.tup [.str (sgnS lo), u1, u2]) ∧ PlAt H a u1 ∧ PlAt H b u2
theorem PlAt.imp {H H' : Hp} (k : ∀ p xs, H p = some (.tup xs) → H' p = some (.tup xs)) : ∀ {t : RT} {v : V}, PlAt H t v → PlAt H' t v
  | .fx _, _, ⟨p, e, h⟩ => ⟨p, e, k _ _ h⟩
  | .dv _ _ _, _, ⟨p, e, h⟩ => ⟨p, e, k _ _ h⟩
  | .jn _ _ _, _, ⟨p, x, y, e, h, a, b⟩ => ⟨p, x, y, e, k _ _ h, PlAt.imp k a, PlAt.imp k b⟩
theorem PlAt.exN {H H' : Hp} {t : RT} {v : V} (h : PlAt H t v) (e : ExtN H H') : PlAt H' t v := h.imp fun p xs h => e _ _ h fun _ z => nomatch z
theorem PlAt.ex {H H' : Hp} {t : RT} {v : V} (h : PlAt H t v) (e : Ex H H') : PlAt H' t v := h.exN e.n
theorem PlAt.keep {H H' : Hp} {t : RT} {v : V} {p : Addr} {n : Nat} (h : PlAt H t v) (hp : Pen H p n) (k : ∀ b o, b ≠ p → H b = some o → H' b = some o) : PlAt H' t v := h.imp fun q xs e => tup_keep e hp k
/-- which kind it is stands first -/
theorem PlAt.ref {H : Hp} {t : RT} {v : V} (h : PlAt H t v) : ∃ p xs, v = .ref p ∧ H p = some (.tup xs) := by
  cases t with
  | fx s => obtain ⟨p, e, h⟩ := h; exact ⟨p, _, e, h⟩
  | dv x y w => obtain ⟨p, e, h⟩ := h; exact ⟨p, _, e, h⟩
  | jn lo a b => obtain ⟨p, x, y, e, h, _⟩ := h; exact ⟨p, _, e, h⟩
def PlAll (H : Hp) : List RT → List V → Prop
  | [], [] => True
  | t :: ts, v :: vs => PlAt H t v ∧ PlAll H ts vs
  | _, _ => False
theorem PlAll.imp {H H' : Hp} (k : ∀ t v, PlAt H t v → PlAt H' t v) : ∀ {ts : List RT} {vs : List V}, PlAll H ts vs → PlAll H' ts vs
  | [], [], _ => trivial
  | _ :: _, _ :: _, ⟨a, b⟩ => ⟨k _ _ a, PlAll.imp k b⟩
  | [], _ :: _, h => h.elim
  | _ :: _, [], h => h.elim
theorem PlAll.app {H : Hp} : ∀ {ts us : List RT} {vs ws : List V}, PlAll H ts vs → PlAll H us ws → PlAll H (ts ++ us) (vs ++ ws)
  | [], _, [], _, _, h => h
  | _ :: _, _, _ :: _, _, ⟨a, b⟩, h => ⟨a, PlAll.app b h⟩
  | [], _, _ :: _, _, h, _ => h.elim
  | _ :: _, _, [], _, h, _ => h.elim
theorem PlAll.len {H : Hp} : ∀ {ts : List RT} {vs : List V}, PlAll H ts vs → vs.length = ts.length
  | [], [], _ => rfl
  | _ :: _, _ :: _, ⟨_, b⟩ => by rw [List.length_cons, List.length_cons, PlAll.len b]
  | [], _ :: _, h => h.elim
  | _ :: _, [], h => h.elim
theorem PlAll.get {H : Hp} : ∀ {ts : List RT} {vs : List V} {i : Nat} {t : RT} {v : V}, PlAll H ts vs → ts[i]? = some t → vs[i]? = some v → PlAt H t v
  | t' :: ts, v' :: vs, 0, t, v, ⟨a, _⟩, h1, h2 => by simp at h1 h2; subst h1; subst h2; exact a
  | t' :: ts, v' :: vs, i + 1, t, v, ⟨_, b⟩, h1, h2 => PlAll.get b (by simpa using h1) (by simpa using h2)
  | [], [], _, _, _, _, h1, _ => by simp at h1
  | [], _ :: _, _, _, _, h, _, _ => h.elim
  | _ :: _, [], _, _, _, h, _, _ => h.elim
structure RA where
  f : Addr
  d : Addr
  l : Addr
  g : Addr
def RA.cs (C : RA) : List Addr := [C.f, C.d, C.l, C.g]
def RA.at (C : RA) (i : Nat) : Addr := C.cs.getD i 0
def RA.vs (C : RA) : List Value := [.ref C.f, .ref C.d, .ref C.l, .ref C.g]
def jnF (qa qb t : Addr) (m : Int) : List (Str × V) := putF "modulus" (.int m) (putF "parts" (.ref t) (putF "other" (.ref qb) (putF "one" (.ref qa) [])))
def RuAt (C : RA) (H : Hp) : RT → Addr → List Addr → Prop
  | .fx s, p, ps => ps = [p] ∧ Fx C.f H p s
  | .dv x y w, p, ps => ps = [p] ∧ Dv C.d H p x y w
  | .jn lo a b, p, ps => ∃ qa qb pa pb dx t, ps = pa ++ pb ∧ H p = some (.ins (if lo then C.l else C.g) dx (jnF qa qb t ((Nat.lcm a.md b.md : Nat) : Int))) ∧ H t = some (.tup (ps.map V.ref)) ∧ RuAt C H a qa pa ∧ RuAt C H b qb pb
section
variable {C : RA} {H H' : Hp}
theorem RuAt.imp (k1 : ∀ p xs, H p = some (.tup xs) → H' p = some (.tup xs)) (k2 : ∀ p c dx g v fs, H p = some (.ins c dx (putF g v fs)) → H' p = some (.ins c dx (putF g v fs))) : ∀ {t : RT} {p : Addr} {ps : List Addr}, RuAt C H t p ps → RuAt C H' t p ps
  | .fx _, _, _, ⟨e, dx, t, a, b⟩ => ⟨e, dx, t, k2 _ _ _ _ _ _ a, k1 _ _ b⟩
  | .dv _ _ _, _, _, ⟨e, dx, t, a, b⟩ => ⟨e, dx, t, k2 _ _ _ _ _ _ a, k1 _ _ b⟩
  | .jn _ _ _, _, _, ⟨qa, qb, pa, pb, dx, t, e, h1, h2, h3, h4⟩ => ⟨qa, qb, pa, pb, dx, t, e, k2 _ _ _ _ _ _ h1, k1 _ _ h2, RuAt.imp k1 k2 h3, RuAt.imp k1 k2 h4⟩
variable {t : RT} {p : Addr} {ps : List Addr}
theorem RuAt.exN (h : RuAt C H t p ps) (e : ExtN H H') : RuAt C H' t p ps := h.imp (fun _ _ h => e _ _ h fun _ z => nomatch z) fun _ _ _ _ _ _ h => e _ _ h fun _ z => nomatch z
theorem RuAt.ex (h : RuAt C H t p ps) (e : Ex H H') : RuAt C H' t p ps := h.exN e.n
theorem ins_ne {q c dx : Addr} {fs : List (Str × V)} {n : Nat} (hp : Pen H p n) (h : H q = some (.ins c dx fs)) : q ≠ p := hp.ne h fun c n z => by unfold PenO at z; cases z
theorem RuAt.keep {a : Addr} {n : Nat} (h : RuAt C H t p ps) (hp : Pen H a n) (k : ∀ b o, b ≠ a → H b = some o → H' b = some o) : RuAt C H' t p ps :=
  h.imp (fun _ _ h => tup_keep h hp k) fun _ _ _ _ _ _ h => k _ _ (ins_ne hp h) h
/-- an instance without attributes changes -/
theorem putF_ne {g : Str} {v : V} {fs : List (Str × V)} : putF g v fs ≠ [] := by
  intro z
  cases fs with
  | nil => cases z
  | cons a b => unfold putF at z; split at z <;> cases z
theorem RuAt.fresh {q c dx : Addr} (h : RuAt C H t p ps) (hq : H q = some (.ins c dx [])) (k : ∀ b o, b ≠ q → H b = some o → H' b = some o) : RuAt C H' t p ps :=
  h.imp (fun _ _ h => k _ _ (fun z => by rw [z, hq] at h; cases h) h) fun _ _ _ g v fs h => k _ _ (fun z => by
    rw [z, hq] at h
    injection h with h
    injection h with _ _ h
    exact putF_ne h.symm) h
theorem RuAt.len (h : RuAt C H t p ps) : ps.length = t.n := by
  induction t generalizing p ps with
  | fx s => rw [h.1]; rfl
  | dv x y w => rw [h.1]; rfl
  | jn lo a b ha hb =>
    obtain ⟨qa, qb, pa, pb, dx, t, e, _, _, h3, h4⟩ := h
    rw [e, List.length_append, ha h3, hb h4]; rfl
/-- what all of them have -/
theorem RuAt.ins (h : RuAt C H t p ps) : ∃ dx fs tp, H p = some (.ins (C.at t.ix) dx fs) ∧ fs.lookup ("parts" : Str) = some (.ref tp) ∧ H tp = some (.tup (ps.map V.ref)) ∧ ∃ m, fs.lookup ("modulus" : Str) = some (.int m) ∧ (t.ok → m = ((t.md : Nat) : Int)) := by
  cases t with
  | fx s => obtain ⟨rfl, dx, t, a, b⟩ := h; exact ⟨dx, _, t, a, rfl, b, _, rfl, fun _ => rfl⟩
  | dv x y w => obtain ⟨rfl, dx, t, a, b⟩ := h; exact ⟨dx, _, t, a, rfl, b, _, rfl, fun h => by have := h.2.2.1; show w = ((w.toNat : Nat) : Int); omega⟩
  | jn lo a b =>
    obtain ⟨qa, qb, pa, pb, dx, t, e, h1, h2, _⟩ := h
    cases lo
    · exact ⟨dx, _, t, h1, rfl, h2, _, rfl, fun _ => rfl⟩
    · exact ⟨dx, _, t, h1, rfl, h2, _, rfl, fun _ => rfl⟩
/-- the leaves are the parts -/
def RuAll (C : RA) (H : Hp) : List RT → List Addr → Prop
  | [], [] => True
  | t :: ts, p :: ps => RuAt C H t p [p] ∧ RuAll C H ts ps
  | _, _ => False
theorem RuAll.app : ∀ {ts us : List RT} {vs ws : List Addr}, RuAll C H ts vs → RuAll C H us ws → RuAll C H (ts ++ us) (vs ++ ws)
  | [], _, [], _, _, h => h
  | _ :: _, _, _ :: _, _, ⟨a, b⟩, h => ⟨a, RuAll.app b h⟩
  | [], _, _ :: _, _, h, _ => h.elim
  | _ :: _, _, [], _, h, _ => h.elim
theorem RuAll.imp (k : ∀ t p, RuAt C H t p [p] → RuAt C H' t p [p]) : ∀ {ts : List RT} {vs : List Addr}, RuAll C H ts vs → RuAll C H' ts vs
  | [], [], _ => trivial
  | _ :: _, _ :: _, ⟨a, b⟩ => ⟨k _ _ a, RuAll.imp k b⟩
  | [], _ :: _, h => h.elim
  | _ :: _, [], h => h.elim
theorem RuAll.len : ∀ {ts : List RT} {vs : List Addr}, RuAll C H ts vs → vs.length = ts.length
  | [], [], _ => rfl
  | _ :: _, _ :: _, ⟨_, b⟩ => by rw [List.length_cons, List.length_cons, RuAll.len b]
  | [], _ :: _, h => h.elim
  | _ :: _, [], h => h.elim
theorem RuAll.get : ∀ {ts : List RT} {vs : List Addr} {i : Nat} {t : RT} {v : Addr}, RuAll C H ts vs → ts[i]? = some t → vs[i]? = some v → RuAt C H t v [v]
  | t' :: ts, v' :: vs, 0, t, v, ⟨a, _⟩, h1, h2 => by simp at h1 h2; subst h1; subst h2; exact a
  | t' :: ts, v' :: vs, i + 1, t, v, ⟨_, b⟩, h1, h2 => RuAll.get b (by simpa using h1) (by simpa using h2)
  | [], [], _, _, _, _, h1, _ => by simp at h1
  | [], _ :: _, _, _, _, h, _, _ => h.elim
  | _ :: _, [], _, _, _, h, _, _ => h.elim
end
/-- no rule that can be joined -/
def NJ (K : PySem.W.Frag) (C : RA) (H : Hp) (v : V) : Prop := ∃ ty, TyX K H v ty ∧ PySem.W.kitAny K ty C.vs = some false
theorem NJ.exN {K : PySem.W.Frag} {C : RA} {H H' : Hp} {v : V} (h : NJ K C H v) (e : ExtN H H') : NJ K C H' v := by
  obtain ⟨t, a, b⟩ := h
  exact ⟨t, L3.TyX.exN a e, b⟩
/-- a rule that is fine -/
def RuF (C : RA) (H : Hp) (t : RT) (v : V) (ps : List Addr) : Prop := t.fine ∧ ∃ p, v = .ref p ∧ RuAt C H t p ps
theorem RuF.exN {C : RA} {H H' : Hp} {t : RT} {v : V} {ps : List Addr} (h : RuF C H t v ps) (e : ExtN H H') : RuF C H' t v ps := ⟨h.1, let ⟨p, a, b⟩ := h.2; ⟨p, a, b.exN e⟩⟩
def spJnb (K : PySem.W.Frag) (C : RA) : Sp := fun vs H Q _ => ∃ x, vs = [x] ∧ (((∃ t ps, RuF C H t x ps) ∧ ∀ H', Ex H H' → Q (.bl true) H') ∨ (NJ K C H x ∧ ∀ H', Ex H H' → Q (.bl false) H'))
/-- two sides that are rules: what the bounds say -/
def JnB (CM : Addr) (H : Hp) (a b : RT) (G : Prop) (E : XK) : Prop := (6 < a.n + b.n ∧ Rz2 CM "what" "most" (.str "parts") (.int 6) H E) ∨ (a.n + b.n ≤ 6 ∧ ((5000 < Nat.lcm a.md b.md ∧ Rz2 CM "what" "most" (.str "residues") (.int 5000) H E) ∨ (Nat.lcm a.md b.md ≤ 5000 ∧ G)))
/-- two sides of any kind; z1: how the first is told -/
def JnT (K : PySem.W.Frag) (C : RA) (CR CM : Addr) (z1 : Str) (H : Hp) (x y : V) (G : RT → RT → Addr → Addr → List Addr → List Addr → Prop) (E : XK) : Prop :=
  (NJ K C H x ∧ (NJ K C H y ∨ ∃ t ps, RuF C H t y ps) ∧ Rz CR "part" (.str z1) H E) ∨
  ∃ a pa, RuF C H a x pa ∧ ((NJ K C H y ∧ Rz CR "part" (.str "other") H E) ∨
    ∃ b pb, RuF C H b y pb ∧ JnB CM H a b (∀ qa qb, x = .ref qa → y = .ref qb → RuAt C H a qa pa → RuAt C H b qb pb → G a b qa qb pa pb) E)
def spNeedJ (K : PySem.W.Frag) (C : RA) (CR CM : Addr) : Sp := fun vs H Q E => ∃ x y, vs = [x, y] ∧ JnT K C CR CM "one" H x y (fun _ _ _ _ _ _ => ∀ H', Ex H H' → Q .non H') E
def RA.jn (C : RA) (lo : Bool) : Addr := if lo then C.l else C.g
def spJn0 (K : PySem.W.Frag) (C : RA) (CR CM : Addr) (lo : Bool) : Sp := fun vs H Q E => ∃ p dx x y, vs = [.ref p, x, y] ∧ H p = some (.ins (C.jn lo) dx []) ∧
  JnT K C CR CM "one" H x y (fun a b qa qb pa pb => ∀ t H', H t = none → t ≠ p → (∀ c o, c ≠ p → H c = some o → H' c = some o) → H' t = some (.tup ((pa ++ pb).map V.ref)) → H' p = some (.ins (C.jn lo) dx (jnF qa qb t ((Nat.lcm a.md b.md : Nat) : Int))) → Q .non H') E
/-- what a joined rule gives -/
def Gjn (C : RA) (lo : Bool) (H : Hp) (Q : VK) (a b : RT) (pa pb : List Addr) : Prop := ∀ q H', H q = none → Ex H H' → RuAt C H' (.jn lo a b) q (pa ++ pb) → Q (.ref q) H'
theorem JnB.fine {CM : Addr} {H : Hp} {a b : RT} {G : Prop} {E : XK} {lo : Bool} (ha : a.fine) (hb : b.fine) (h1 : a.n + b.n ≤ 6) (h2 : Nat.lcm a.md b.md ≤ 5000) : (RT.jn lo a b).fine := ⟨⟨ha.ok, hb.ok⟩, h1, h2⟩
theorem mk_ex2 {H : Hp} {p dx : Addr} {o o' : HO} (hp : H p = none) (hd : H dx = none) : Ex H (upd (upd H dx o) p o') := fun c u e => by rw [upd_ne (ne_of_none e hp), upd_ne (ne_of_none e hd)]; exact e
/-- making one by its class -/
theorem s_mkJn {K : PySem.W.Frag} {C : RA} {CR CM : Addr} {lo : Bool} {H : Hp} {Q : VK} {E : XK} {x y : V} (h : JnT K C CR CM "one" H x y (fun a b _ _ pa pb => Gjn C lo H Q a b pa pb) E) :
    ∀ p dx, H p = none → H dx = none → dx ≠ p → spJn0 K C CR CM lo (.ref p :: ([x, y] ++ [])) (upd (upd H dx (.own p)) p (.ins (C.jn lo) dx [])) (fun v H2 => v = .non ∧ ap Q (.ref p) H2) E := fun p dx hp hd hn => by
  have e := mk_ex2 (o := .own p) (o' := .ins (C.jn lo) dx []) hp hd
  refine ⟨p, dx, x, y, rfl, upd_same, ?_⟩
  rcases h with ⟨a, b, c⟩ | ⟨a, pa, ha, h⟩
  · exact .inl ⟨a.exN e.n, b.imp (fun h => h.exN e.n) (fun ⟨t, ps, h⟩ => ⟨t, ps, h.exN e.n⟩), c.ex e⟩
  · refine .inr ⟨a, pa, ha.exN e.n, ?_⟩
    rcases h with ⟨h1, h2⟩ | ⟨b, pb, hb, h⟩
    · exact .inl ⟨h1.exN e.n, h2.ex e⟩
    · refine .inr ⟨b, pb, hb.exN e.n, ?_⟩
      rcases h with ⟨h1, h2⟩ | ⟨h1, ⟨h2, h3⟩ | ⟨h2, h3⟩⟩
      · exact .inl ⟨h1, h2.ex e⟩
      · exact .inr ⟨h1, .inl ⟨h2, h3.ex e⟩⟩
      · refine .inr ⟨h1, .inr ⟨h2, fun qa qb ex ey ra rb t H' ht htp k e1 e2 => ?_⟩⟩
        obtain ⟨_, qa', ex', ra'⟩ := ha
        obtain ⟨_, qb', ey', rb'⟩ := hb
        rw [ex] at ex'; cases ex'
        rw [ey] at ey'; cases ey'
        have e' : Ex H H' := fun c o hc => k c o (ne_of_none hc hp) (e _ _ hc)
        exact ⟨rfl, h3 _ _ ex ey ra' rb' p H' hp e' ⟨qa, qb, pa, pb, dx, t, rfl, by cases lo <;> exact e2, e1, ra'.ex e', rb'.ex e'⟩⟩
end L3
end
section
local macro_rules | `(tactic| tm_at "s1") => `(tactic| first
  | with_reducible first
    | refine L3.s_seq ?_ | refine L3.s_asg ?_ | refine L3.s_op ?_ | refine L3.s_c ?_ | refine L3.s_cb ?_ | refine L3.s_cons ?_ | refine L3.s_nil ?_ | refine L3.s_test ?_ | refine L3.s_bl ?_
    | refine L3.s_I0 ?_ | refine L3.s_and ?_ | refine L3.s_or ?_ | refine L3.s_not ?_ | refine L3.s_if ?_ | refine L3.s_next ?_ | refine L3.s_ret ?_ | refine L3.s_retN ?_ | refine L3.s_asgS ?_ | refine L3.s_drop ?_
    | refine L3.s_un ?_ | refine L3.s_U ?_ | refine L3.s_int ?_ | refine L3.s_intB ?_ | refine L3.s_abs ?_ | refine L3.s_andV ?_ | refine L3.s_orV ?_ | refine L3.s_notV ?_ | refine L3.s_ifE ?_ | refine L3.s_call ?_ | refine L3.s_lst ?_ | refine L3.s_tup ?_ | refine L3.s_tB ?_
    | refine L3.s_addI ?_ | refine L3.s_inS ?_ | refine L3.s_ninS ?_ | refine L3.s_slice ?_ | refine L3.s_part ?_ | refine L3.s_partI ?_ | refine L3.s_nopart ?_ | refine L3.s_cI ?_ | refine L3.s_cB ?_ | refine L3.s_chain ?_ | refine L3.s_bm ?_ | refine L3.s_lcS ?_ | refine L3.s_lcR ?_ | refine L3.s_strE ?_
    | refine L2.iteT ?_ | refine L2.iteF ?_ | refine L3.iteNF ?_ | refine L3.iteNT ?_
    | refine L3.s_eqI ?_ | refine L3.s_neI ?_ | refine L3.s_eqS ?_ | refine L3.s_neS ?_
    | refine L3.s_pair ?_ | refine L3.s_pair2 ?_ | refine L3.s_fld ?_ | refine L3.s_make ?_ | refine L3.s_m1 ?_ | refine L3.s_isstr ?_
    | refine L3.s_xfV ?_ | refine L3.s_lstN ?_ | refine L3.s_callF ?_ | refine L3.s_lcL ?_ | refine L3.s_par3 ?_ | refine L3.s_trip ?_ | refine L3.s_asgT' ?_ | refine L3.s_gC ?_ | refine L3.s_gN ?_ | refine L3.s_fldG ?_ | refine L3.s_raise1 ?_ | refine L3.s_raise2 ?_ | refine L3.s_star ?_ | refine L3.s_mkCR ?_ | refine L3.s_lcZ ?_ | refine L3.s_forL ?_ | refine L3.s_forT ?_ | refine L3.s_gNm ?_ | refine L3.s_forE ?_ | refine L3.s_stC ?_ | refine L3.s_cmC ?_ | refine L3.s_forR1 ?_ | refine L3.s_lcTp ?_ | refine L3.s_forZ ?_ | refine L3.s_orT ?_ | refine L3.s_mt ?_ | refine L3.s_revT ?_ | refine L3.s_revL ?_ | refine L3.s_slOwn ?_ | refine L3.s_sl3 ?_ | refine L3.s_lcO ?_ | refine L3.s_stR ?_
    | refine L3.s_isN ?_ | refine L3.s_isB ?_ | refine L3.s_nisN ?_ | refine L3.s_nisB ?_
  | ((with_reducible refine' L3.s_var ?e ?_); (case e => rfl))
  | ((with_reducible refine' L3.s_aug ?e ?_); (case e => rfl))
  | ((with_reducible refine' L3.s_pow ?c ?_); (case c => exact ⟨by decide, by decide, by decide⟩)))
local macro_rules | `(tactic| tm_at "s") => `(tactic| repeat tm_at "s1")
namespace K49
open PySem PySem.NumText PySem.Spec PyProof.Rows L2 L3 LamX RZ ClX
def topS (i : Nat) : Stmt := PySem.Challenge.pw_latechunks_k49_texts_that_are_no_rules.main.body.getD i (.Pass ⟨0, 0, 0, 0⟩)
structure Cl (K : PySem.W.Frag) (mg : Str → Option Value) (x : Str) (C : Addr) : Prop where
  g : ∃ u, mg x = some u ∧ RelV (.ref C) u
  cl : Cls K C
  kC : PySem.W.kitOne K (.ref C) (.ref C) = some true
  ha : PySem.W.findIn K (.ref C) "__class__" = some (some (.builtin "object.__class__"))
  hn : PySem.W.specialIn K (.builtin "object.__class__") "__get__" = some (some (.builtin "getset_descriptor.__get__"))
  htk : PySem.W.takesIn K (.builtin "object.__class__") = some true
  hm : PySem.W.mroIn K C (.type "object") = some true
  nM : NoAttr K C "modulus"
  nP : NoAttr K C "parts"
structure Er (K : PySem.W.Frag) (mg : Str → Option Value) (x : Str) (C CL : Addr) (fs : List Str) : Prop where
  g : ∃ u, mg x = some u ∧ RelV (.ref C) u
  exc : ExcC K C
  xf : XfC K C
  nV : ∀ f ∈ fs, PySem.W.findIn K (.ref C) f = some none
  kB : PySem.W.kitOne K (.ref C) (.ref C) = some true
  em : PySem.W.exmOne K (.ref C) (.ref CL) = some true
structure Txt (K : PySem.W.Frag) (mg : Str → Option Value) (C : RA) (CR0 CY CS CR CM CL : Addr) : Prop where
  b_isinstance : mg "isinstance" = none
  b_int : mg "int" = none
  b_bool : mg "bool" = none
  b_len : mg "len" = none
  b_abs : mg "abs" = none
  b_list : mg "list" = none
  b_tuple : mg "tuple" = none
  b_range : mg "range" = none
  b_repr : mg "repr" = none
  b_str : mg "str" = none
  b_min : mg "min" = none
  b_max : mg "max" = none
  b_all : mg "all" = none
  b_enumerate : mg "enumerate" = none
  g_LateError : mg "LateError" = some (.ref CL)
  g_lcm : mg "lcm" = some (.builtin "math.lcm")
  g_Rule : ∃ u, mg "Rule" = some u ∧ RelV (.ref CR0) u
  f : Cl K mg "Fixed" C.f
  d : Cl K mg "Divided" C.d
  l : Cl K mg "Lesser" C.l
  g : Cl K mg "Greater" C.g
  s : Er K mg "BadSize" CS CL ["value"]
  r : Er K mg "BadRule" CR CL ["part"]
  m : Er K mg "TooMany" CM CL ["what", "most"]
  kJ : ∀ i, i < 4 → PySem.W.kitAny K (.ref (C.at i)) C.vs = some true
  kTJ : (numTys.all fun T => decide (PySem.W.kitAny K (.type T) C.vs = some false)) = true
  kE : ∀ i j, i < 4 → j < 4 → PySem.W.kitOne K (.ref (C.at i)) (.ref (C.at j)) = some (decide (i = j))
  kTE : ∀ j, j < 4 → (numTys.all fun T => decide (PySem.W.kitOne K (.type T) (.ref (C.at j)) = some false)) = true
  kR : ∀ i, i < 4 → PySem.W.kitOne K (.ref (C.at i)) (.ref CR0) = some true
  nFs : NoAttr K C.f "size"
  nDx : NoAttr K C.d "x"
  nDy : NoAttr K C.d "y"
  nDw : NoAttr K C.d "w"
  nLo : NoAttr K C.l "one"
  nLt : NoAttr K C.l "other"
  nGo : NoAttr K C.g "one"
  nGt : NoAttr K C.g "other"
  g_MOST_SIZE : ∃ u, mg "MOST_SIZE" = some u ∧ RelV (.int (10 ^ 30)) u
  g_MOST_DIVISOR : ∃ u, mg "MOST_DIVISOR" = some u ∧ RelV (.int 24) u
  g_MOST_ADDED : ∃ u, mg "MOST_ADDED" = some u ∧ RelV (.int 1000) u
  g_MOST_PARTS : ∃ u, mg "MOST_PARTS" = some u ∧ RelV (.int 6) u
  g_MOST_RESIDUES : ∃ u, mg "MOST_RESIDUES" = some u ∧ RelV (.int 5000) u
theorem Cl.ty {K : PySem.W.Frag} {mg : Str → Option Value} {x : Str} {C : Addr} (T : Cl K mg x C) {H : Hp} {p dx : Addr} {fs : List (Str × V)} (e : H p = some (.ins C dx fs)) : TyA K H (.ref p) (.ref C) := .x (.base (.ins e T.cl T.ha T.hn T.htk T.hm))
section
variable {K : PySem.W.Frag} {mg : Str → Option Value} {C : RA} {CR0 CY CS CR CM CL : Addr}
theorem Txt.g_Fixed (T : Txt K mg C CR0 CY CS CR CM CL) : ∃ u, mg "Fixed" = some u ∧ RelV (.ref C.f) u := T.f.g
theorem Txt.g_Divided (T : Txt K mg C CR0 CY CS CR CM CL) : ∃ u, mg "Divided" = some u ∧ RelV (.ref C.d) u := T.d.g
theorem Txt.g_Lesser (T : Txt K mg C CR0 CY CS CR CM CL) : ∃ u, mg "Lesser" = some u ∧ RelV (.ref C.l) u := T.l.g
theorem Txt.g_Greater (T : Txt K mg C CR0 CY CS CR CM CL) : ∃ u, mg "Greater" = some u ∧ RelV (.ref C.g) u := T.g.g
theorem Txt.g_BadSize (T : Txt K mg C CR0 CY CS CR CM CL) : ∃ u, mg "BadSize" = some u ∧ RelV (.ref CS) u := T.s.g
theorem Txt.g_BadRule (T : Txt K mg C CR0 CY CS CR CM CL) : ∃ u, mg "BadRule" = some u ∧ RelV (.ref CR) u := T.r.g
theorem Txt.g_TooMany (T : Txt K mg C CR0 CY CS CR CM CL) : ∃ u, mg "TooMany" = some u ∧ RelV (.ref CM) u := T.m.g
/-- the class at an index -/
theorem Txt.cls (T : Txt K mg C CR0 CY CS CR CM CL) : ∀ {i : Nat}, i < 4 → ∃ x, Cl K mg x (C.at i)
  | 0, _ => ⟨_, T.f⟩
  | 1, _ => ⟨_, T.d⟩
  | 2, _ => ⟨_, T.l⟩
  | 3, _ => ⟨_, T.g⟩
  | i + 4, h => absurd h (by omega)
theorem ru_ty (T : Txt K mg C CR0 CY CS CR CM CL) {H : Hp} {t : RT} {p : Addr} {ps : List Addr} (h : RuAt C H t p ps) : TyX K H (.ref p) (.ref (C.at t.ix)) := by
  obtain ⟨dx, fs, tp, a, _⟩ := h.ins
  obtain ⟨x, c⟩ := T.cls t.ix_lt
  exact .base (.ins a c.cl c.ha c.hn c.htk c.hm)
end
abbrev s_is_integer : Stmt := topS 4
theorem sc_is_integer : FnScope ["value"] ["value"] (defScope s_is_integer) := ⟨rfl, rfl, rfl, by decide +kernel, rfl, by decide +kernel, by decide +kernel⟩
abbrev s_is_within : Stmt := topS 5
theorem sc_is_within : FnScope ["value", "least", "most"] ["value", "least", "most"] (defScope s_is_within) := ⟨rfl, rfl, rfl, by decide +kernel, rfl, by decide +kernel, by decide +kernel⟩
abbrev s_is_size : Stmt := topS 6
theorem sc_is_size : FnScope ["value"] ["value"] (defScope s_is_size) := ⟨rfl, rfl, rfl, by decide +kernel, rfl, by decide +kernel, by decide +kernel⟩
abbrev s_Fixed___init__ : Stmt := inClass (topS 27) 0
theorem sc_Fixed___init__ : FnScope ["self", "size"] ["self", "size"] (defScope s_Fixed___init__) := ⟨rfl, rfl, rfl, by decide +kernel, rfl, by decide +kernel, by decide +kernel⟩
abbrev s_Divided___init__ : Stmt := inClass (topS 28) 0
theorem sc_Divided___init__ : FnScope ["self", "x", "y", "w"] ["self", "x", "y", "w"] (defScope s_Divided___init__) := ⟨rfl, rfl, rfl, by decide +kernel, rfl, by decide +kernel, by decide +kernel⟩
abbrev s_is_joinable : Stmt := topS 31
theorem sc_is_joinable : FnScope ["value"] ["value"] (defScope s_is_joinable) := ⟨rfl, rfl, rfl, by decide +kernel, rfl, by decide +kernel, by decide +kernel⟩
abbrev s_need_joined : Stmt := topS 32
theorem sc_need_joined : FnScope ["one", "other"] ["one", "other"] (defScope s_need_joined) := ⟨rfl, rfl, rfl, by decide +kernel, rfl, by decide +kernel, by decide +kernel⟩
abbrev s_Lesser___init__ : Stmt := inClass (topS 29) 0
theorem sc_Lesser___init__ : FnScope ["self", "one", "other"] ["self", "one", "other"] (defScope s_Lesser___init__) := ⟨rfl, rfl, rfl, by decide +kernel, rfl, by decide +kernel, by decide +kernel⟩
abbrev s_Greater___init__ : Stmt := inClass (topS 30) 0
theorem sc_Greater___init__ : FnScope ["self", "one", "other"] ["self", "one", "other"] (defScope s_Greater___init__) := ⟨rfl, rfl, rfl, by decide +kernel, rfl, by decide +kernel, by decide +kernel⟩
section
variable {P : Program} {w : World} {K : PySem.W.Frag} {mg : Str → Option Value} {base : Heap} {C : RA} {CR0 CY CS CR CM CL : Addr}
theorem ok_is_integer {f : Addr} {fd : FuncData} (F : Fun K "is_integer" "is_integer" s_is_integer f fd) (T : Txt K mg C CR0 CY CS CR CM CL) : FnOk P w K mg base CX0 1 f fd ["value"] spIsI := by
  refine funO F sc_is_integer (fun vs H Q E h => ?_) (fun cd A fr s H vs Q E hr h => ?_)
  · obtain ⟨x, rfl, _⟩ := h; rfl
  · obtain ⟨x, rfl, ⟨i, rfl, k⟩ | ⟨t, hk, k⟩⟩ := h
    · refine ⟨_, (pss_one (ps_ret (pe_and (pe_callB (KX.callIsi (K := K)) (by rfl) T.b_isinstance (by decide +kernel) (pa_cons (pv 0) (pa_cons (pe_bltn (v := .ty "int") (u := .type "int") (by rfl) T.b_int (by decide +kernel) rfl) pa_nil))) (pe_one (pe_not (pe_callB (KX.callIsi (K := K)) (by rfl) T.b_isinstance (by decide +kernel) (pa_cons (pv 0) (pa_cons (pe_bltn (v := .ty "bool") (u := .type "bool") (by rfl) T.b_bool (by decide +kernel) rfl) pa_nil)))))))), ?_⟩
      tm_at "s"
      refine s_isiT (.x (.base (.int i))) (b := true) (kit_ty (by decide +kernel)) ?_
      tm_at "s"
      refine s_isiT (.x (.base (.int i))) (b := false) (kit_ty (by decide +kernel)) ?_
      tm_at "s"
      exact k
    · refine ⟨_, (pss_one (ps_ret (pe_and (pe_callB (KX.callIsi (K := K)) (by rfl) T.b_isinstance (by decide +kernel) (pa_cons (pv 0) (pa_cons (pe_bltn (v := .ty "int") (u := .type "int") (by rfl) T.b_int (by decide +kernel) rfl) pa_nil))) (pe_one (pe_not (pe_callB (KX.callIsi (K := K)) (by rfl) T.b_isinstance (by decide +kernel) (pa_cons (pv 0) (pa_cons (pe_bltn (v := .ty "bool") (u := .type "bool") (by rfl) T.b_bool (by decide +kernel) rfl) pa_nil)))))))), ?_⟩
      tm_at "s"
      rcases hk.noInt (K := K) with ⟨b, rfl⟩ | ⟨ty, h1, h2⟩
      · refine s_isiT (.x (.base (.bl b))) (b := true) (kit_ty (by decide +kernel)) ?_
        tm_at "s"
        refine s_isiT (.x (.base (.bl b))) (b := true) (kit_ty (by decide +kernel)) ?_
        tm_at "s"
        exact k
      · refine s_isiT h1 h2 ?_
        tm_at "s"
        exact k
theorem ok_is_within {f : Addr} {fd : FuncData} (F : Fun K "is_within" "is_within" s_is_within f fd) (T : Txt K mg C CR0 CY CS CR CM CL) (c_is_integer : FnO P w K mg base CX0 1 "is_integer" ["value"] spIsI) : FnOk P w K mg base CX0 2 f fd ["value", "least", "most"] spWithin := by
  refine funO F sc_is_within (fun vs H Q E h => ?_) (fun cd A fr s H vs Q E hr h => ?_)
  · obtain ⟨x, a, b, rfl, _⟩ := h; rfl
  · obtain ⟨x, a, b, rfl, hc⟩ := h
    refine ⟨_, (pss_one (ps_ret (pe_and (pe_o c_is_integer hr pass0 (pa_cons (pv 0) pa_nil)) (pe_one (pe_chain op_le op_le (pv 1) (pv 0) (pv 2)))))), ?_⟩
    tm_at "s"
    rcases hc with ⟨⟨i, rfl, h1, h2⟩, k⟩ | ⟨⟨t, od⟩ | ⟨i, rfl, hn⟩, k⟩
    · refine ⟨_, rfl, .inl ⟨i, rfl, ?_⟩⟩
      tm_at "s"
      refine iteD (fun _ => ?_) (fun z => absurd h1 z)
      tm_at "s"
      rw [decide_eq_true h2]
      exact k
    · refine ⟨_, rfl, .inr ⟨t, od, ?_⟩⟩
      tm_at "s"
      exact k
    · refine ⟨_, rfl, .inl ⟨i, rfl, ?_⟩⟩
      tm_at "s"
      refine iteD (fun z => ?_) (fun z => ?_)
      · tm_at "s"
        rw [decide_eq_false (fun y => hn ⟨z, y⟩)]
        exact k
      · tm_at "s"
        exact k
theorem ok_is_size {f : Addr} {fd : FuncData} (F : Fun K "is_size" "is_size" s_is_size f fd) (T : Txt K mg C CR0 CY CS CR CM CL) (c_is_within : FnO P w K mg base CX0 2 "is_within" ["value", "least", "most"] spWithin) : FnOk P w K mg base CX0 3 f fd ["value"] spSize := by
  refine funO F sc_is_size (fun vs H Q E h => ?_) (fun cd A fr s H vs Q E hr h => ?_)
  · obtain ⟨x, rfl, _⟩ := h; rfl
  · obtain ⟨x, rfl, hc⟩ := h
    refine ⟨_, (pss_one (ps_ret (pe_o c_is_within hr pass0 (pa_cons (pv 0) (pa_cons pe_int (pa_cons (C8.pe_gc (by rfl) T.g_MOST_SIZE) pa_nil)))))), ?_⟩
    tm_at "s"
    exact ⟨x, 1, 10 ^ 30, rfl, hc⟩
theorem ok_fixed {f : Addr} {fd : FuncData} (F : Fun K "__init__" "Fixed.__init__" s_Fixed___init__ f fd) (T : Txt K mg C CR0 CY CS CR CM CL) (c_is_size : FnO P w K mg base CX0 3 "is_size" ["value"] spSize) (e_BadSize : Er1 P w K mg base "BadSize" CS "value") : FnOk P w K mg base (L2.CX P w) 4 f fd ["self", "size"] (spFx C.f CS) := by
  refine funO F sc_Fixed___init__ (fun vs H Q E h => ?_) (fun cd A fr s H vs Q E hr h => ?_)
  · obtain ⟨p, dx, x, rfl, _⟩ := h; rfl
  · obtain ⟨p, dx, x, rfl, hp, hc⟩ := h
    refine ⟨_, (pss_cons (ps_if (pt_not (pt_val (pe_o c_is_size hr pass0 (pa_cons (pv 1) pa_nil)))) (pss_one (ps_raise1 e_BadSize hr rfl (takes_of rfl rfl rfl rfl) (pa_cons (pv 1) pa_nil))) pss_nil)
      (pss_cons (ps_fld (pv 0) (pv 1) rfl)
      (pss_cons (ps_fld (pv 0) (pe_tup (pa_cons (pv 0) pa_nil)) rfl)
      (pss_one (ps_fld (pv 0) pe_int rfl))))), ?_⟩
    tm_at "s"
    rcases hc with ⟨i, rfl, hi, m⟩ | ⟨ho, rz⟩
    · refine ⟨_, rfl, .inl ⟨⟨i, rfl, hi⟩, ?_⟩⟩
      tm_at "s"
      refine ⟨p, C.f, dx, [], rfl, hp, T.f.cl, T.nFs, by decide, ?_⟩
      tm_at "s"
      refine s_new (Nat.le_of_lt (small1000 (by simp))) fun t H2 ht e2 h2 => ?_
      tm_at "s"
      have htp : t ≠ p := fun z => by rw [z, upd_same] at ht; cases ht
      refine ⟨p, C.f, dx, _, rfl, e2 _ _ upd_same, T.f.cl, T.f.nP, (by show 1 < 1000; decide), ?_⟩
      tm_at "s"
      refine ⟨p, C.f, dx, _, rfl, upd_same, T.f.cl, T.f.nM, (by show 2 < 1000; decide), ?_⟩
      refine m t _ ?_ htp (fun c o h1 e => ?_) ?_ upd_same
      · rw [upd_ne htp] at ht; exact ht
      · rw [upd_ne h1, upd_ne h1]; exact e2 _ _ (by rw [upd_ne h1]; exact e)
      · rw [upd_ne htp, upd_ne htp]; exact h2
    · refine ⟨_, rfl, .inr ⟨ho, ?_⟩⟩
      tm_at "s"
      exact s_rz rz
theorem ok_divided {f : Addr} {fd : FuncData} (F : Fun K "__init__" "Divided.__init__" s_Divided___init__ f fd) (T : Txt K mg C CR0 CY CS CR CM CL) (c_is_within : FnO P w K mg base CX0 2 "is_within" ["value", "least", "most"] spWithin) (e_BadRule : Er1 P w K mg base "BadRule" CR "part") : FnOk P w K mg base (L2.CX P w) 3 f fd ["self", "x", "y", "w"] (spDv C.d CR) := by
  refine funO F sc_Divided___init__ (fun vs H Q E h => ?_) (fun cd A fr s H vs Q E hr h => ?_)
  · obtain ⟨p, dx, a, b, c, rfl, _⟩ := h; rfl
  · obtain ⟨p, dx, a, b, c, rfl, hp, hc⟩ := h
    refine ⟨_, (pss_cons (ps_if (pt_not (pt_val (pe_o c_is_within hr pass0 (pa_cons (pv 1) (pa_cons pe_int (pa_cons (C8.pe_gc (by rfl) T.g_MOST_DIVISOR) pa_nil)))))) (pss_one (ps_raise1 e_BadRule hr rfl (takes_of rfl rfl rfl rfl) (pa_cons pe_str pa_nil))) pss_nil)
      (pss_cons (ps_if (pt_not (pt_val (pe_o c_is_within hr pass0 (pa_cons (pv 2) (pa_cons (pe_un un_neg (C8.pe_gc (by rfl) T.g_MOST_ADDED)) (pa_cons (C8.pe_gc (by rfl) T.g_MOST_ADDED) pa_nil)))))) (pss_one (ps_raise1 e_BadRule hr rfl (takes_of rfl rfl rfl rfl) (pa_cons pe_str pa_nil))) pss_nil)
      (pss_cons (ps_if (pt_not (pt_val (pe_o c_is_within hr pass0 (pa_cons (pv 3) (pa_cons pe_int (pa_cons (C8.pe_gc (by rfl) T.g_MOST_DIVISOR) pa_nil)))))) (pss_one (ps_raise1 e_BadRule hr rfl (takes_of rfl rfl rfl rfl) (pa_cons pe_str pa_nil))) pss_nil)
      (pss_cons (ps_fld (pv 0) (pv 1) rfl)
      (pss_cons (ps_fld (pv 0) (pv 2) rfl)
      (pss_cons (ps_fld (pv 0) (pv 3) rfl)
      (pss_cons (ps_fld (pv 0) (pe_tup (pa_cons (pv 0) pa_nil)) rfl)
      (pss_one (ps_fld (pv 0) (pv 3) rfl))))))))), ?_⟩
    tm_at "s"
    rcases hc with ⟨x, y, w', rfl, rfl, rfl, hx, hy, hw, m⟩ | ⟨z, hz, rz⟩
    · refine ⟨_, _, _, rfl, .inl ⟨⟨x, rfl, hx⟩, ?_⟩⟩
      tm_at "s"
      refine ⟨_, _, _, rfl, .inl ⟨⟨y, rfl, hy⟩, ?_⟩⟩
      tm_at "s"
      refine ⟨_, _, _, rfl, .inl ⟨⟨w', rfl, hw⟩, ?_⟩⟩
      tm_at "s"
      refine ⟨p, C.d, dx, [], rfl, hp, T.d.cl, T.nDx, by decide, ?_⟩
      tm_at "s"
      refine ⟨p, C.d, dx, _, rfl, upd_same, T.d.cl, T.nDy, (by show 1 < 1000; decide), ?_⟩
      tm_at "s"
      refine ⟨p, C.d, dx, _, rfl, upd_same, T.d.cl, T.nDw, (by show 2 < 1000; decide), ?_⟩
      tm_at "s"
      refine s_new (Nat.le_of_lt (small1000 (by simp))) fun t H2 ht e2 h2 => ?_
      tm_at "s"
      have htp : t ≠ p := fun z => by rw [z, upd_same] at ht; cases ht
      refine ⟨p, C.d, dx, _, rfl, e2 _ _ upd_same, T.d.cl, T.d.nP, (by show 3 < 1000; decide), ?_⟩
      tm_at "s"
      refine ⟨p, C.d, dx, _, rfl, upd_same, T.d.cl, T.d.nM, (by show 4 < 1000; decide), ?_⟩
      refine m t _ ?_ htp (fun c o h1 e => ?_) ?_ upd_same
      · rw [upd_ne htp, upd_ne htp, upd_ne htp] at ht; exact ht
      · rw [upd_ne h1, upd_ne h1]; exact e2 _ _ (by rw [upd_ne h1, upd_ne h1, upd_ne h1]; exact e)
      · rw [upd_ne htp, upd_ne htp]; exact h2
    · rcases hz with ⟨h1, rfl⟩ | ⟨h1, h2, rfl⟩ | ⟨h1, h2, h3, rfl⟩
      · refine ⟨_, _, _, rfl, .inr ⟨h1, ?_⟩⟩
        tm_at "s"
        exact s_rz rz
      · refine ⟨_, _, _, rfl, .inl ⟨h1, ?_⟩⟩
        tm_at "s"
        refine ⟨_, _, _, rfl, .inr ⟨h2, ?_⟩⟩
        tm_at "s"
        exact s_rz rz
      · refine ⟨_, _, _, rfl, .inl ⟨h1, ?_⟩⟩
        tm_at "s"
        refine ⟨_, _, _, rfl, .inl ⟨h2, ?_⟩⟩
        tm_at "s"
        refine ⟨_, _, _, rfl, .inr ⟨h3, ?_⟩⟩
        tm_at "s"
        exact s_rz rz
theorem ok_jnb {f : Addr} {fd : FuncData} (F : Fun K "is_joinable" "is_joinable" s_is_joinable f fd) (T : Txt K mg C CR0 CY CS CR CM CL) : FnOk P w K mg base CX0 1 f fd ["value"] (spJnb K C) := by
  refine funO F sc_is_joinable (fun vs H Q E h => ?_) (fun cd A fr s H vs Q E hr h => ?_)
  · obtain ⟨x, rfl, _⟩ := h; rfl
  · obtain ⟨x, rfl, hc⟩ := h
    refine ⟨_, (pss_one (ps_ret (pe_callB (KX.isiTT (K := K) rfl) (by rfl) T.b_isinstance (by decide +kernel) (pa_cons (pv 0) (pa_cons (pe_tup (pa_cons (C8.pe_gc (by rfl) T.g_Fixed) (pa_cons (C8.pe_gc (by rfl) T.g_Divided) (pa_cons (C8.pe_gc (by rfl) T.g_Lesser) (pa_cons (C8.pe_gc (by rfl) T.g_Greater) pa_nil))))) pa_nil))))), ?_⟩
    tm_at "s"
    refine s_new (Nat.le_of_lt (small1000 (by simp))) fun tp H1 n1 e1 h1 => ?_
    tm_at "s"
    rcases hc with ⟨⟨t, ps, ht, p, rfl, ru⟩, k⟩ | ⟨⟨ty, a, b⟩, k⟩
    · exact ⟨_, tp, _, _, _, true, rfl, h1, .cons (.own _) (.cons (.own _) (.cons (.own _) (.cons (.own _) .nil))), ru_ty T (ru.ex e1), T.kJ _ t.ix_lt, k H1 e1⟩
    · exact ⟨_, tp, _, _, _, false, rfl, h1, .cons (.own _) (.cons (.own _) (.cons (.own _) (.cons (.own _) .nil))), L3.TyX.exN a e1.n, b, k H1 e1⟩
theorem fld_of (T : Txt K mg C CR0 CY CS CR CM CL) {H : Hp} {t : RT} {p : Addr} {ps : List Addr} (ru : RuAt C H t p ps) (ht : t.ok) : ∃ x dx fs tp, Cl K mg x (C.at t.ix) ∧ H p = some (.ins (C.at t.ix) dx fs) ∧ fs.lookup ("parts" : Str) = some (.ref tp) ∧ H tp = some (.tup (ps.map V.ref)) ∧ fs.lookup ("modulus" : Str) = some (.int ((t.md : Nat) : Int)) := by
  obtain ⟨dx, fs, tp, a, b, c, m, d, e⟩ := ru.ins
  obtain ⟨x, cl⟩ := T.cls t.ix_lt
  rw [e ht] at d
  exact ⟨x, dx, fs, tp, cl, a, b, c, d⟩
theorem ok_needJ {f : Addr} {fd : FuncData} (F : Fun K "need_joined" "need_joined" s_need_joined f fd) (T : Txt K mg C CR0 CY CS CR CM CL) (c_is_joinable : FnO P w K mg base CX0 1 "is_joinable" ["value"] (spJnb K C)) (e_BadRule : Er1 P w K mg base "BadRule" CR "part") (e_TooMany : Er2 P w K mg base "TooMany" CM "what" "most") :
    FnOk P w K mg base (L2.CX P w) 3 f fd ["one", "other"] (spNeedJ K C CR CM) := by
  refine funO F sc_need_joined (fun vs H Q E h => ?_) (fun cd A fr s H vs Q E hr h => ?_)
  · obtain ⟨x, y, rfl, _⟩ := h; rfl
  · obtain ⟨x, y, rfl, hc⟩ := h
    refine ⟨_, (pss_cons (ps_if (pt_not (pt_val (pe_o c_is_joinable hr pass0 (pa_cons (pv 0) pa_nil)))) (pss_one (ps_raise1 e_BadRule hr rfl (takes_of rfl rfl rfl rfl) (pa_cons pe_str pa_nil))) pss_nil)
      (pss_cons (ps_if (pt_not (pt_val (pe_o c_is_joinable hr pass0 (pa_cons (pv 1) pa_nil)))) (pss_one (ps_raise1 e_BadRule hr rfl (takes_of rfl rfl rfl rfl) (pa_cons pe_str pa_nil))) pss_nil)
      (pss_cons (ps_if (pt_cmpR op_gt (pe_op opAdd (pe_callB (KX.callLen (K := K)) (by rfl) T.b_len (by decide +kernel) (pa_cons (KX.fld (K := K) rfl (pv 0) rfl) pa_nil)) (pe_callB (KX.callLen (K := K)) (by rfl) T.b_len (by decide +kernel) (pa_cons (KX.fld (K := K) rfl (pv 1) rfl) pa_nil))) (C8.pe_gc (by rfl) T.g_MOST_PARTS) (nomark _)) (pss_one (ps_raise2 e_TooMany hr rfl (takes_of rfl rfl rfl rfl) (pa_cons pe_str (pa_cons (C8.pe_gc (by rfl) T.g_MOST_PARTS) pa_nil)))) pss_nil)
      (pss_one (ps_if (pt_cmpR op_gt (pe_callBfun cr_lcm (by rfl) T.g_lcm (pa_cons (KX.fld (K := K) rfl (pv 0) rfl) (pa_cons (KX.fld (K := K) rfl (pv 1) rfl) pa_nil))) (C8.pe_gc (by rfl) T.g_MOST_RESIDUES) (nomark _)) (pss_one (ps_raise2 e_TooMany hr rfl (takes_of rfl rfl rfl rfl) (pa_cons pe_str (pa_cons (C8.pe_gc (by rfl) T.g_MOST_RESIDUES) pa_nil)))) pss_nil))))), ?_⟩
    tm_at "s"
    rcases hc with ⟨a, _, c⟩ | ⟨a, pa, ha, hc⟩
    · refine ⟨x, rfl, .inr ⟨a, fun H1 e1 => ?_⟩⟩
      tm_at "s"
      exact s_rz (c.ex e1)
    refine ⟨x, rfl, .inl ⟨⟨a, pa, ha⟩, fun H1 e1 => ?_⟩⟩
    tm_at "s"
    rcases hc with ⟨b, c⟩ | ⟨b, pb, hb, hc⟩
    · refine ⟨y, rfl, .inr ⟨b.exN e1.n, fun H2 e2 => ?_⟩⟩
      tm_at "s"
      exact s_rz (c.ex (e1.trans e2))
    refine ⟨y, rfl, .inl ⟨⟨b, pb, hb.exN e1.n⟩, fun H2 e2 => ?_⟩⟩
    have e12 := e1.trans e2
    obtain ⟨fa, p, rfl, ra⟩ := ha
    obtain ⟨fb, q, rfl, rb⟩ := hb
    have la := ra.len
    have lb := rb.len
    have ma := Nat.le_trans fa.md (show 5000 ≤ 100000 by decide)
    have mb := Nat.le_trans fb.md (show 5000 ≤ 100000 by decide)
    obtain ⟨x1, dx1, fs1, tp1, cl1, i1, p1, t1, m1⟩ := fld_of T ra fa.ok
    obtain ⟨x2, dx2, fs2, tp2, cl2, i2, p2, t2, m2⟩ := fld_of T rb fb.ok
    have i1' := e12 _ _ i1
    have i2' := e12 _ _ i2
    tm_at "s"
    refine ⟨p, _, dx1, _, _, rfl, i1', cl1.cl, cl1.nP, p1, ?_⟩
    tm_at "s"
    refine s_lenT (e12 _ _ t1) ?_
    rw [List.length_map, la]
    tm_at "s"
    refine ⟨q, _, dx2, _, _, rfl, i2', cl2.cl, cl2.nP, p2, ?_⟩
    tm_at "s"
    refine s_lenT (e12 _ _ t2) ?_
    rw [List.length_map, lb]
    tm_at "s"
    rcases hc with ⟨h1, rz⟩ | ⟨h1, hc⟩
    · refine iteD (fun _ => ?_) (fun z => absurd (show (6 : Int) < (a.n : Int) + (b.n : Int) by omega) z)
      tm_at "s"
      exact s_rz2 (rz.ex e12)
    refine iteD (fun z => absurd z (by omega)) (fun _ => ?_)
    tm_at "s"
    refine ⟨p, _, dx1, _, _, rfl, i1', cl1.cl, cl1.nM, m1, ?_⟩
    tm_at "s"
    refine ⟨q, _, dx2, _, _, rfl, i2', cl2.cl, cl2.nM, m2, ?_⟩
    tm_at "s"
    refine ⟨a.md, b.md, rfl, ma, mb, ?_⟩
    tm_at "s"
    rcases hc with ⟨h2, rz⟩ | ⟨h2, k⟩
    · refine iteD (fun _ => ?_) (fun z => absurd (show (5000 : Int) < ((Nat.lcm a.md b.md : Nat) : Int) by omega) z)
      tm_at "s"
      exact s_rz2 (rz.ex e12)
    · refine iteD (fun z => absurd z (by omega)) (fun _ => ?_)
      tm_at "s"
      exact k _ _ rfl rfl ra rb H2 e12
theorem ok_Lesser {f : Addr} {fd : FuncData} (F : Fun K "__init__" "Lesser.__init__" s_Lesser___init__ f fd) (T : Txt K mg C CR0 CY CS CR CM CL) (c_need_joined : FnO P w K mg base (L2.CX P w) 3 "need_joined" ["one", "other"] (spNeedJ K C CR CM)) :
    FnOk P w K mg base (L2.CX P w) 4 f fd ["self", "one", "other"] (spJn0 K C CR CM true) := by
  refine funO F sc_Lesser___init__ (fun vs H Q E h => ?_) (fun cd A fr s H vs Q E hr h => ?_)
  · obtain ⟨p, dx, x, y, rfl, _⟩ := h; rfl
  · obtain ⟨p, dx, x, y, rfl, hp, hc⟩ := h
    refine ⟨_, (pss_cons (ps_expr (pe_o c_need_joined hr (passT (takes_of rfl rfl rfl rfl) (fun _ _ _ _ h => h)) (pa_cons (pv 1) (pa_cons (pv 2) pa_nil))))
      (pss_cons (ps_fld (pv 0) (pv 1) rfl)
      (pss_cons (ps_fld (pv 0) (pv 2) rfl)
      (pss_cons (ps_fld (pv 0) (pe_tup (KX.star (K := K) rfl (KX.fld (K := K) rfl (pv 1) rfl) (KX.star (K := K) rfl (KX.fld (K := K) rfl (pv 2) rfl) pa_nil))) rfl)
      (pss_one (ps_fld (pv 0) (pe_callBfun cr_lcm (by rfl) T.g_lcm (pa_cons (KX.fld (K := K) rfl (pv 1) rfl) (pa_cons (KX.fld (K := K) rfl (pv 2) rfl) pa_nil))) rfl)))))), ?_⟩
    change H p = some (.ins C.l dx []) at hp
    tm_at "s"
    refine ⟨_, _, rfl, ?_⟩
    rcases hc with ⟨a, b, c⟩ | ⟨a, pa, ha, hc⟩
    · exact .inl ⟨a, b, c⟩
    refine .inr ⟨a, pa, ha, ?_⟩
    rcases hc with ⟨b, c⟩ | ⟨b, pb, hb, hc⟩
    · exact .inl ⟨b, c⟩
    refine .inr ⟨b, pb, hb, ?_⟩
    rcases hc with ⟨h1, rz⟩ | ⟨h1, ⟨h2, rz⟩ | ⟨h2, k⟩⟩
    · exact .inl ⟨h1, rz⟩
    · exact .inr ⟨h1, .inl ⟨h2, rz⟩⟩
    refine .inr ⟨h1, .inr ⟨h2, fun qa qb ex ey ra rb H1 e1 => ?_⟩⟩
    subst ex ey
    have fa := ha.1
    have fb := hb.1
    have hp1 := e1 _ _ hp
    have ma := Nat.le_trans fa.md (show 5000 ≤ 100000 by decide)
    have mb := Nat.le_trans fb.md (show 5000 ≤ 100000 by decide)
    have ra1 := ra.ex e1
    have rb1 := rb.ex e1
    tm_at "s"
    refine ⟨p, C.l, dx, [], rfl, hp1, T.l.cl, T.nLo, by decide, ?_⟩
    have k1 : ∀ {o : HO}, ∀ b o', b ≠ p → H1 b = some o' → upd H1 p o b = some o' := fun b o' hb h => by rw [upd_ne hb]; exact h
    tm_at "s"
    refine ⟨p, C.l, dx, _, rfl, upd_same, T.l.cl, T.nLt, (by show 1 < 1000; decide), ?_⟩
    have k2 : ∀ {o o1 : HO}, ∀ b o', b ≠ p → H1 b = some o' → upd (upd H1 p o1) p o b = some o' := fun b o' hb h => by rw [upd_ne hb, upd_ne hb]; exact h
    obtain ⟨x1, dx1, fs1, tp1, cl1, i1, p1, t1, m1⟩ := fld_of T (ra1.fresh hp1 (k2 (o := .ins C.l dx (putF "other" (.ref qb) (putF "one" (.ref qa) []))) (o1 := .ins C.l dx (putF "one" (.ref qa) [])))) fa.ok
    obtain ⟨x2, dx2, fs2, tp2, cl2, i2, p2, t2, m2⟩ := fld_of T (rb1.fresh hp1 (k2 (o := .ins C.l dx (putF "other" (.ref qb) (putF "one" (.ref qa) []))) (o1 := .ins C.l dx (putF "one" (.ref qa) [])))) fb.ok
    tm_at "s"
    refine ⟨qa, _, dx1, _, _, rfl, i1, cl1.cl, cl1.nP, p1, ?_⟩
    tm_at "s"
    refine ⟨tp1, _, rfl, .inl (.inl (.inl t1)), ?_⟩
    tm_at "s"
    refine ⟨qb, _, dx2, _, _, rfl, i2, cl2.cl, cl2.nP, p2, ?_⟩
    tm_at "s"
    refine ⟨tp2, _, rfl, .inl (.inl (.inl t2)), ?_⟩
    tm_at "s"
    refine s_new (Nat.le_of_lt (small1000 (by simp [ra.len, rb.len]; omega))) fun t H3 ht e3 h3 => ?_
    rw [List.append_nil, ← List.map_append] at h3
    have htp : t ≠ p := fun z => by rw [z, upd_same] at ht; cases ht
    have ht0 : H t = none := e1.free (by rw [upd_ne htp, upd_ne htp] at ht; exact ht)
    tm_at "s"
    refine ⟨p, C.l, dx, _, rfl, e3 _ _ upd_same, T.l.cl, T.l.nP, (by show 2 < 1000; decide), ?_⟩
    have k4 : ∀ {o : HO}, ∀ b o', b ≠ p → H1 b = some o' → upd H3 p o b = some o' := fun b o' hb h => by rw [upd_ne hb]; exact e3 _ _ (k2 _ _ hb h)
    obtain ⟨y1, dy1, gs1, up1, dl1, j1, q1, w1, n1⟩ := fld_of T (ra1.fresh hp1 (k4 (o := .ins C.l dx (putF "parts" (.ref t) (putF "other" (.ref qb) (putF "one" (.ref qa) [])))))) fa.ok
    obtain ⟨y2, dy2, gs2, up2, dl2, j2, q2, w2, n2⟩ := fld_of T (rb1.fresh hp1 (k4 (o := .ins C.l dx (putF "parts" (.ref t) (putF "other" (.ref qb) (putF "one" (.ref qa) [])))))) fb.ok
    tm_at "s"
    refine ⟨qa, _, dy1, _, _, rfl, j1, dl1.cl, dl1.nM, n1, ?_⟩
    tm_at "s"
    refine ⟨qb, _, dy2, _, _, rfl, j2, dl2.cl, dl2.nM, n2, ?_⟩
    tm_at "s"
    refine ⟨a.md, b.md, rfl, ma, mb, ?_⟩
    tm_at "s"
    refine ⟨p, C.l, dx, _, rfl, upd_same, T.l.cl, T.l.nM, (by show 3 < 1000; decide), ?_⟩
    refine k _ _ rfl rfl ra rb t _ ht0 htp (fun c o h1 e => ?_) ?_ upd_same
    · rw [upd_ne h1]; exact k4 _ _ h1 (e1 _ _ e)
    · rw [upd_ne htp, upd_ne htp]; exact h3
theorem ok_Greater {f : Addr} {fd : FuncData} (F : Fun K "__init__" "Greater.__init__" s_Greater___init__ f fd) (T : Txt K mg C CR0 CY CS CR CM CL) (c_need_joined : FnO P w K mg base (L2.CX P w) 3 "need_joined" ["one", "other"] (spNeedJ K C CR CM)) :
    FnOk P w K mg base (L2.CX P w) 4 f fd ["self", "one", "other"] (spJn0 K C CR CM false) := by
  refine funO F sc_Greater___init__ (fun vs H Q E h => ?_) (fun cd A fr s H vs Q E hr h => ?_)
  · obtain ⟨p, dx, x, y, rfl, _⟩ := h; rfl
  · obtain ⟨p, dx, x, y, rfl, hp, hc⟩ := h
    refine ⟨_, (pss_cons (ps_expr (pe_o c_need_joined hr (passT (takes_of rfl rfl rfl rfl) (fun _ _ _ _ h => h)) (pa_cons (pv 1) (pa_cons (pv 2) pa_nil))))
      (pss_cons (ps_fld (pv 0) (pv 1) rfl)
      (pss_cons (ps_fld (pv 0) (pv 2) rfl)
      (pss_cons (ps_fld (pv 0) (pe_tup (KX.star (K := K) rfl (KX.fld (K := K) rfl (pv 1) rfl) (KX.star (K := K) rfl (KX.fld (K := K) rfl (pv 2) rfl) pa_nil))) rfl)
      (pss_one (ps_fld (pv 0) (pe_callBfun cr_lcm (by rfl) T.g_lcm (pa_cons (KX.fld (K := K) rfl (pv 1) rfl) (pa_cons (KX.fld (K := K) rfl (pv 2) rfl) pa_nil))) rfl)))))), ?_⟩
    change H p = some (.ins C.g dx []) at hp
    tm_at "s"
    refine ⟨_, _, rfl, ?_⟩
    rcases hc with ⟨a, b, c⟩ | ⟨a, pa, ha, hc⟩
    · exact .inl ⟨a, b, c⟩
    refine .inr ⟨a, pa, ha, ?_⟩
    rcases hc with ⟨b, c⟩ | ⟨b, pb, hb, hc⟩
    · exact .inl ⟨b, c⟩
    refine .inr ⟨b, pb, hb, ?_⟩
    rcases hc with ⟨h1, rz⟩ | ⟨h1, ⟨h2, rz⟩ | ⟨h2, k⟩⟩
    · exact .inl ⟨h1, rz⟩
    · exact .inr ⟨h1, .inl ⟨h2, rz⟩⟩
    refine .inr ⟨h1, .inr ⟨h2, fun qa qb ex ey ra rb H1 e1 => ?_⟩⟩
    subst ex ey
    have fa := ha.1
    have fb := hb.1
    have hp1 := e1 _ _ hp
    have ma := Nat.le_trans fa.md (show 5000 ≤ 100000 by decide)
    have mb := Nat.le_trans fb.md (show 5000 ≤ 100000 by decide)
    have ra1 := ra.ex e1
    have rb1 := rb.ex e1
    tm_at "s"
    refine ⟨p, C.g, dx, [], rfl, hp1, T.g.cl, T.nGo, by decide, ?_⟩
    have k1 : ∀ {o : HO}, ∀ b o', b ≠ p → H1 b = some o' → upd H1 p o b = some o' := fun b o' hb h => by rw [upd_ne hb]; exact h
    tm_at "s"
    refine ⟨p, C.g, dx, _, rfl, upd_same, T.g.cl, T.nGt, (by show 1 < 1000; decide), ?_⟩
    have k2 : ∀ {o o1 : HO}, ∀ b o', b ≠ p → H1 b = some o' → upd (upd H1 p o1) p o b = some o' := fun b o' hb h => by rw [upd_ne hb, upd_ne hb]; exact h
    obtain ⟨x1, dx1, fs1, tp1, cl1, i1, p1, t1, m1⟩ := fld_of T (ra1.fresh hp1 (k2 (o := .ins C.g dx (putF "other" (.ref qb) (putF "one" (.ref qa) []))) (o1 := .ins C.g dx (putF "one" (.ref qa) [])))) fa.ok
    obtain ⟨x2, dx2, fs2, tp2, cl2, i2, p2, t2, m2⟩ := fld_of T (rb1.fresh hp1 (k2 (o := .ins C.g dx (putF "other" (.ref qb) (putF "one" (.ref qa) []))) (o1 := .ins C.g dx (putF "one" (.ref qa) [])))) fb.ok
    tm_at "s"
    refine ⟨qa, _, dx1, _, _, rfl, i1, cl1.cl, cl1.nP, p1, ?_⟩
    tm_at "s"
    refine ⟨tp1, _, rfl, .inl (.inl (.inl t1)), ?_⟩
    tm_at "s"
    refine ⟨qb, _, dx2, _, _, rfl, i2, cl2.cl, cl2.nP, p2, ?_⟩
    tm_at "s"
    refine ⟨tp2, _, rfl, .inl (.inl (.inl t2)), ?_⟩
    tm_at "s"
    refine s_new (Nat.le_of_lt (small1000 (by simp [ra.len, rb.len]; omega))) fun t H3 ht e3 h3 => ?_
    rw [List.append_nil, ← List.map_append] at h3
    have htp : t ≠ p := fun z => by rw [z, upd_same] at ht; cases ht
    have ht0 : H t = none := e1.free (by rw [upd_ne htp, upd_ne htp] at ht; exact ht)
    tm_at "s"
    refine ⟨p, C.g, dx, _, rfl, e3 _ _ upd_same, T.g.cl, T.g.nP, (by show 2 < 1000; decide), ?_⟩
    have k4 : ∀ {o : HO}, ∀ b o', b ≠ p → H1 b = some o' → upd H3 p o b = some o' := fun b o' hb h => by rw [upd_ne hb]; exact e3 _ _ (k2 _ _ hb h)
    obtain ⟨y1, dy1, gs1, up1, dl1, j1, q1, w1, n1⟩ := fld_of T (ra1.fresh hp1 (k4 (o := .ins C.g dx (putF "parts" (.ref t) (putF "other" (.ref qb) (putF "one" (.ref qa) [])))))) fa.ok
    obtain ⟨y2, dy2, gs2, up2, dl2, j2, q2, w2, n2⟩ := fld_of T (rb1.fresh hp1 (k4 (o := .ins C.g dx (putF "parts" (.ref t) (putF "other" (.ref qb) (putF "one" (.ref qa) [])))))) fb.ok
    tm_at "s"
    refine ⟨qa, _, dy1, _, _, rfl, j1, dl1.cl, dl1.nM, n1, ?_⟩
    tm_at "s"
    refine ⟨qb, _, dy2, _, _, rfl, j2, dl2.cl, dl2.nM, n2, ?_⟩
    tm_at "s"
    refine ⟨a.md, b.md, rfl, ma, mb, ?_⟩
    tm_at "s"
    refine ⟨p, C.g, dx, _, rfl, upd_same, T.g.cl, T.g.nM, (by show 3 < 1000; decide), ?_⟩
    refine k _ _ rfl rfl ra rb t _ ht0 htp (fun c o h1 e => ?_) ?_ upd_same
    · rw [upd_ne h1]; exact k4 _ _ h1 (e1 _ _ e)
    · rw [upd_ne htp, upd_ne htp]; exact h3
end
end K49
end
section
local macro_rules | `(tactic| tm_at "s1") => `(tactic| first
  | with_reducible first
    | refine L3.s_seq ?_ | refine L3.s_asg ?_ | refine L3.s_op ?_ | refine L3.s_c ?_ | refine L3.s_cb ?_ | refine L3.s_cons ?_ | refine L3.s_nil ?_ | refine L3.s_test ?_ | refine L3.s_bl ?_
    | refine L3.s_I0 ?_ | refine L3.s_and ?_ | refine L3.s_or ?_ | refine L3.s_not ?_ | refine L3.s_if ?_ | refine L3.s_next ?_ | refine L3.s_ret ?_ | refine L3.s_retN ?_ | refine L3.s_asgS ?_ | refine L3.s_drop ?_
    | refine L3.s_un ?_ | refine L3.s_U ?_ | refine L3.s_int ?_ | refine L3.s_intB ?_ | refine L3.s_abs ?_ | refine L3.s_andV ?_ | refine L3.s_orV ?_ | refine L3.s_notV ?_ | refine L3.s_ifE ?_ | refine L3.s_call ?_ | refine L3.s_lst ?_ | refine L3.s_tup ?_ | refine L3.s_tB ?_
    | refine L3.s_addI ?_ | refine L3.s_inS ?_ | refine L3.s_ninS ?_ | refine L3.s_slice ?_ | refine L3.s_part ?_ | refine L3.s_partI ?_ | refine L3.s_nopart ?_ | refine L3.s_cI ?_ | refine L3.s_cB ?_ | refine L3.s_chain ?_ | refine L3.s_bm ?_ | refine L3.s_lcS ?_ | refine L3.s_lcR ?_ | refine L3.s_strE ?_
    | refine L2.iteT ?_ | refine L2.iteF ?_ | refine L3.iteNF ?_ | refine L3.iteNT ?_
    | refine L3.s_eqI ?_ | refine L3.s_neI ?_ | refine L3.s_eqS ?_ | refine L3.s_neS ?_
    | refine L3.s_pair ?_ | refine L3.s_pair2 ?_ | refine L3.s_fld ?_ | refine L3.s_make ?_ | refine L3.s_m1 ?_ | refine L3.s_isstr ?_
    | refine L3.s_xfV ?_ | refine L3.s_lstN ?_ | refine L3.s_callF ?_ | refine L3.s_lcL ?_ | refine L3.s_par3 ?_ | refine L3.s_trip ?_ | refine L3.s_asgT' ?_ | refine L3.s_gC ?_ | refine L3.s_gN ?_ | refine L3.s_fldG ?_ | refine L3.s_raise1 ?_ | refine L3.s_raise2 ?_ | refine L3.s_star ?_ | refine L3.s_mkCR ?_ | refine L3.s_lcZ ?_ | refine L3.s_forL ?_ | refine L3.s_forT ?_ | refine L3.s_gNm ?_ | refine L3.s_forE ?_ | refine L3.s_stC ?_ | refine L3.s_cmC ?_ | refine L3.s_forR1 ?_ | refine L3.s_lcTp ?_ | refine L3.s_forZ ?_ | refine L3.s_orT ?_ | refine L3.s_mt ?_ | refine L3.s_revT ?_ | refine L3.s_revL ?_ | refine L3.s_slOwn ?_ | refine L3.s_sl3 ?_ | refine L3.s_lcO ?_ | refine L3.s_stR ?_
    | refine L3.s_isN ?_ | refine L3.s_isB ?_ | refine L3.s_nisN ?_ | refine L3.s_nisB ?_
  | ((with_reducible refine' L3.s_var ?e ?_); (case e => rfl))
  | ((with_reducible refine' L3.s_aug ?e ?_); (case e => rfl))
  | ((with_reducible refine' L3.s_pow ?c ?_); (case c => exact ⟨by decide, by decide, by decide⟩)))
local macro_rules | `(tactic| tm_at "s") => `(tactic| repeat tm_at "s1")
namespace K49
open PySem PySem.NumText PySem.Spec PyProof.Rows L2 L3 LamX RZ ClX
abbrev s__law_pen : Stmt := topS 40
theorem sc__law_pen : FnScope ["_law_script"] ["_law_script"] (defScope s__law_pen) := ⟨rfl, rfl, rfl, by decide +kernel, rfl, by decide +kernel, by decide +kernel⟩
abbrev s__law_draw : Stmt := topS 41
theorem sc__law_draw : FnScope ["_law_pen_here", "_law_many", "_law_digit", "_law_spot", "_law_cell", "_law_great", "_law_stirred"] ["_law_pen_here", "_law_many"] (defScope s__law_draw) := ⟨rfl, rfl, rfl, by decide +kernel, rfl, by decide +kernel, by decide +kernel⟩
abbrev s__law_pick : Stmt := topS 42
theorem sc__law_pick : FnScope ["_law_pen_here", "_law_some"] ["_law_pen_here", "_law_some"] (defScope s__law_pick) := ⟨rfl, rfl, rfl, by decide +kernel, rfl, by decide +kernel, by decide +kernel⟩
section
variable {P : Program} {w : World} {K : PySem.W.Frag} {mg : Str → Option Value} {base : Heap} {C : RA} {CR0 CY CS CR CM CL : Addr}
theorem ok_pen {f : Addr} {fd : FuncData} (F : Fun K "_law_pen" "_law_pen" s__law_pen f fd) (T : Txt K mg C CR0 CY CS CR CM CL) : FnG P w K mg base CX0 1 f fd ["_law_script"] (spPen K) := by
  refine funG F sc__law_pen (fun vs H Q E h => ?_) (fun cd A fr s H vs Q E hr hg h => ?_)
  · obtain ⟨a, ns, rfl, _⟩ := h; rfl
  · obtain ⟨a, ns, rfl, hs, hl, k⟩ := h
    refine ⟨_, pss_penNew ((pss_one (ps_ret (pe_lst (pa_cons (pe_callTy (KX.callList (K := K) rfl rfl) (by rfl) T.b_list (by decide +kernel) (pa_cons (pe_slice (KX.slU (K := K)) (pv 0) po_none (po_some pe_int)) pa_nil)) (pa_cons pe_int (pa_cons pe_int pa_nil))))))), ?_⟩
    show (tRet _ : TS) _ _ _
    tm_at "s"
    refine s_slL hs fun q H1 hq e1 h1 => ?_
    tm_at "s"
    refine s_listL (.inl (.inl h1)) fun l H2 hl2 e2 h2 => ?_
    tm_at "s"
    refine s_new (Nat.le_of_lt (small1000 (by simp))) fun p H3 hp e3 h3 => ?_
    have hH : H p = none := e1.free (e2.free hp)
    have nlp : l ≠ p := ne_of_none h2 hp
    have hHl : H l = none := e1.free hl2
    refine ⟨p, l, 0, ns.take 63, rfl, h3, ?_, nlp, k p _ hH (fun b o hb => ?_) ⟨l, ns.take 63, ?_, upd_same, ?_, nlp⟩⟩
    · rw [e3 _ _ h2]
      have : cutV (ns.map V.int) none (some 63) = (ns.take 63).map V.int := by
        unfold cutV
        show ((ns.map V.int).drop 0).take (HT.sIx (ns.map V.int).length (ns.map V.int).length (some (63 : Nat)) - 0) = _
        rw [HT.sIx_nat, List.drop_zero, List.length_map, Nat.sub_zero, List.map_take]
        rw [List.take_eq_take_iff]
        simp
      rw [this]
    · rw [upd_ne (ne_of_none hb hHl), upd_ne (ne_of_none hb hH)]
      exact e3 _ _ (e2 _ _ (e1 _ _ hb))
    · rw [upd_ne (Ne.symm nlp)]; exact upd_same
    · rw [List.length_take]; omega
theorem drawC : DrawC 93785 1293 2147437129 84883 707 2147427139 229 71687 401 2147417155 := ⟨by decide, by decide, by decide, by decide, by decide, by decide, by decide, by decide, by decide⟩
theorem ok_draw {f : Addr} {fd : FuncData} (F : Fun K "_law_draw" "_law_draw" s__law_draw f fd) (T : Txt K mg C CR0 CY CS CR CM CL) : FnG P w K mg base CX0 1 f fd ["_law_pen_here", "_law_many"] spDraw := by
  refine funG F sc__law_draw (fun vs H Q E h => ?_) (fun cd A fr s H vs Q E hr hg h => ?_)
  · obtain ⟨a, n, many, rfl, _⟩ := h; rfl
  · obtain ⟨a, n, many, rfl, hm, hm2, ⟨c, ns, ha, hc, hl⟩, hn, k⟩ := h
    refine ⟨_, pss_sc c ns (pss_pen a c n (n + 1) ((pss_cons (ps_if (pt_cmpR op_gt (pe_ix (KX.ixU (K := K)) (pv 0) pe_int (fun _ _ => rfl)) pe_int (nomark _)) (pss_cons (ps_set (i := 2) sc__law_draw.nd rfl (Or.inl rfl) (pe_op op_mod (pe_callTy (KX.callInt (K := K)) (by rfl) T.b_int (by decide +kernel) (pa_cons (pe_ix (KX.ixU (K := K)) (pv 0) pe_int (fun _ _ => rfl)) pa_nil)) (pv 1)))
      (pss_cons (ps_asg (pe_op op_fdivW (pe_callTy (KX.callInt (K := K)) (by rfl) T.b_int (by decide +kernel) (pa_cons (pe_ix (KX.ixU (K := K)) (pv 0) pe_int (fun _ _ => rfl)) pa_nil)) (pv 1)) (pg_sub (pv 0) pe_int set_list))
      (pss_one (ps_ret (pv 2))))) pss_nil)
      (pss_cons (ps_set (i := 3) sc__law_draw.nd rfl (Or.inl rfl) (pe_ix (KX.ixU (K := K)) (pv 0) pe_int (fun _ _ => rfl)))
      (pss_cons (ps_asg (pe_op opAdd (pv 3) pe_int) (pg_sub (pv 0) pe_int set_list))
      (pss_cons (ps_set (i := 4) sc__law_draw.nd rfl (Or.inl rfl) (pe_op opAdd (pe_op opMul pe_int (pv 3)) pe_int))
      (Evl.pss_cut (ps_if (pt_cmpR (KX.neU (K := K) rfl hr.units) (pe_ix (KX.ixU (K := K)) (pv 0) pe_int (fun _ _ => rfl)) (pe_lst pa_nil) (nomark _)) (pss_one (ps_set (i := 4) sc__law_draw.nd rfl (Or.inl rfl) (pe_ix (KX.ixU (K := K)) (pe_ix (KX.ixU (K := K)) (pv 0) pe_int (fun _ _ => rfl)) (pe_op op_mod (pe_callTy (KX.callInt (K := K)) (by rfl) T.b_int (by decide +kernel) (pa_cons (pv 3) pa_nil)) (pe_callB (KX.callLen (K := K)) (by rfl) T.b_len (by decide +kernel) (pa_cons (pe_ix (KX.ixU (K := K)) (pv 0) pe_int (fun _ _ => rfl)) pa_nil))) (fun _ _ => rfl)))) pss_nil)
      (pss_cons (ps_if (PW.pt (pw_and (pt_cmpR op_lt (pv 3) (pe_callB (KX.callLen (K := K)) (by rfl) T.b_len (by decide +kernel) (pa_cons (pe_ix (KX.ixU (K := K)) (pv 0) pe_int (fun _ _ => rfl)) pa_nil)) (nomark _)) (pw_and1 (pt_cmpR op_ge (pe_callB call_abs (by rfl) T.b_abs (by decide +kernel) (pa_cons (pv 4) pa_nil)) (pe_op op_pow pe_int pe_int) (nomark _))))) (pss_cons (ps_set (i := 5) sc__law_draw.nd rfl (Or.inl rfl) (pe_op opAdd (pe_op opMul pe_int (pe_op op_sub (pe_callB call_abs (by rfl) T.b_abs (by decide +kernel) (pa_cons (pv 4) pa_nil)) (pe_op op_pow pe_int pe_int))) (pe_callTy (KX.callInt (K := K)) (by rfl) T.b_int (by decide +kernel) (pa_cons (pe_cmpR op_lt (pv 4) pe_int (nomark _)) pa_nil))))
      (pss_cons (ps_asg (pe_op op_fdivW (pe_callTy (KX.callInt (K := K)) (by rfl) T.b_int (by decide +kernel) (pa_cons (pv 5) pa_nil)) (pv 1)) (pg_sub (pv 0) pe_int set_list))
      (pss_one (ps_ret (pe_op op_mod (pe_callTy (KX.callInt (K := K)) (by rfl) T.b_int (by decide +kernel) (pa_cons (pv 5) pa_nil)) (pv 1)))))) pss_nil)
      (pss_cons (ps_set (i := 6) sc__law_draw.nd rfl (Or.inl rfl) (pe_op op_mod (pe_callTy (KX.callInt (K := K)) (by rfl) T.b_int (by decide +kernel) (pa_cons (pe_op op_pow (pe_op opAdd (pe_op opAdd (pe_op op_mod (pe_callTy (KX.callInt (K := K)) (by rfl) T.b_int (by decide +kernel) (pa_cons (pv 4) pa_nil)) pe_int) (pe_op opMul pe_int (pv 3))) pe_int) pe_int) pa_nil)) pe_int))
      (pss_cons (ps_set (i := 6) sc__law_draw.nd rfl (Or.inl rfl) (pe_op op_mod (pe_callTy (KX.callInt (K := K)) (by rfl) T.b_int (by decide +kernel) (pa_cons (pe_op op_pow (pe_op opAdd (pe_op opAdd (pe_op opMul (pv 6) (pe_op opAdd (pe_op opMul pe_int (pv 3)) pe_int)) (pe_op opMul (pe_op opMul pe_int (pv 3)) (pv 3))) pe_int) pe_int) pa_nil)) pe_int))
      (pss_one (ps_ret (pe_op op_mod (pe_callTy (KX.callInt (K := K)) (by rfl) T.b_int (by decide +kernel) (pa_cons (pe_op op_fdivW (pv 6) pe_int) pa_nil)) (pv 1)))))))))))))), ?_⟩
    exact rd_drawS drawC hm hm2 ha hc hn hl k
theorem ok_pick {f : Addr} {fd : FuncData} (F : Fun K "_law_pick" "_law_pick" s__law_pick f fd) (T : Txt K mg C CR0 CY CS CR CM CL) (c__law_draw : Fn P w K mg base CX0 1 "_law_draw" ["_law_pen_here", "_law_many"] spDraw) :
    FnG P w K mg base CX0 2 f fd ["_law_pen_here", "_law_some"] spPick := by
  refine funG F sc__law_pick (fun vs H Q E h => ?_) (fun cd A fr s H vs Q E hr hg h => ?_)
  · obtain ⟨a, l, n, xs, rfl, _⟩ := h; rfl
  · obtain ⟨a, l, n, xs, rfl, hl, hne, hlen, hp, hn, k⟩ := h
    refine ⟨_, (pss_one (ps_ret (pe_ix (KX.ixU (K := K)) (pv 1) (pe_f c__law_draw hr hg pass0 (pa_cons (pv 0) (pa_cons (pe_callB (KX.callLen (K := K)) (by rfl) T.b_len (by decide +kernel) (pa_cons (pv 1) pa_nil)) pa_nil))) (fun _ _ => rfl)))), ?_⟩
    tm_at "s"
    refine s_lenL hl ?_
    have hpos : 0 < xs.length := List.length_pos_iff.mpr hne
    refine ⟨a, n, _, rfl, by omega, ?_, hp, hn, fun d H' d0 d1 hp' hk => ?_⟩
    · rw [Int.natAbs_natCast]
      exact Nat.lt_of_le_of_lt hlen (Nat.lt_of_lt_of_le (by decide : 100000 < 2 ^ 20) (Nat.pow_le_pow_right (by decide) (by decide)))
    · have nl : l ≠ a := hp.ne hl fun c n z => by unfold PenO at z; cases z
      have hd : d.toNat < xs.length := by omega
      refine s_iL (v := xs[d.toNat]) (hk l _ nl hl) (by rw [atI_int d0 d1, List.getElem?_eq_getElem hd]) ?_
      exact k _ _ (List.getElem_mem hd) hp' hk
end
end K49
end
section
local macro_rules | `(tactic| tm_at "s1") => `(tactic| first
  | with_reducible first
    | refine L3.s_seq ?_ | refine L3.s_asg ?_ | refine L3.s_op ?_ | refine L3.s_c ?_ | refine L3.s_cb ?_ | refine L3.s_cons ?_ | refine L3.s_nil ?_ | refine L3.s_test ?_ | refine L3.s_bl ?_
    | refine L3.s_I0 ?_ | refine L3.s_and ?_ | refine L3.s_or ?_ | refine L3.s_not ?_ | refine L3.s_if ?_ | refine L3.s_next ?_ | refine L3.s_ret ?_ | refine L3.s_retN ?_ | refine L3.s_asgS ?_ | refine L3.s_drop ?_
    | refine L3.s_un ?_ | refine L3.s_U ?_ | refine L3.s_int ?_ | refine L3.s_intB ?_ | refine L3.s_abs ?_ | refine L3.s_andV ?_ | refine L3.s_orV ?_ | refine L3.s_notV ?_ | refine L3.s_ifE ?_ | refine L3.s_call ?_ | refine L3.s_lst ?_ | refine L3.s_tup ?_ | refine L3.s_tB ?_
    | refine L3.s_addI ?_ | refine L3.s_inS ?_ | refine L3.s_ninS ?_ | refine L3.s_slice ?_ | refine L3.s_part ?_ | refine L3.s_partI ?_ | refine L3.s_nopart ?_ | refine L3.s_cI ?_ | refine L3.s_cB ?_ | refine L3.s_chain ?_ | refine L3.s_bm ?_ | refine L3.s_lcS ?_ | refine L3.s_lcR ?_ | refine L3.s_strE ?_
    | refine L2.iteT ?_ | refine L2.iteF ?_ | refine L3.iteNF ?_ | refine L3.iteNT ?_
    | refine L3.s_eqI ?_ | refine L3.s_neI ?_ | refine L3.s_eqS ?_ | refine L3.s_neS ?_
    | refine L3.s_pair ?_ | refine L3.s_pair2 ?_ | refine L3.s_fld ?_ | refine L3.s_make ?_ | refine L3.s_m1 ?_ | refine L3.s_isstr ?_
    | refine L3.s_xfV ?_ | refine L3.s_lstN ?_ | refine L3.s_callF ?_ | refine L3.s_lcL ?_ | refine L3.s_par3 ?_ | refine L3.s_trip ?_ | refine L3.s_asgT' ?_ | refine L3.s_gC ?_ | refine L3.s_gN ?_ | refine L3.s_fldG ?_ | refine L3.s_raise1 ?_ | refine L3.s_raise2 ?_ | refine L3.s_star ?_ | refine L3.s_mkCR ?_ | refine L3.s_lcZ ?_ | refine L3.s_forL ?_ | refine L3.s_forT ?_ | refine L3.s_gNm ?_ | refine L3.s_forE ?_ | refine L3.s_stC ?_ | refine L3.s_cmC ?_ | refine L3.s_forR1 ?_ | refine L3.s_lcTp ?_ | refine L3.s_forZ ?_ | refine L3.s_orT ?_ | refine L3.s_mt ?_ | refine L3.s_revT ?_ | refine L3.s_revL ?_ | refine L3.s_slOwn ?_ | refine L3.s_sl3 ?_ | refine L3.s_lcO ?_ | refine L3.s_stR ?_
    | refine L3.s_isN ?_ | refine L3.s_isB ?_ | refine L3.s_nisN ?_ | refine L3.s_nisB ?_
  | ((with_reducible refine' L3.s_var ?e ?_); (case e => rfl))
  | ((with_reducible refine' L3.s_aug ?e ?_); (case e => rfl))
  | ((with_reducible refine' L3.s_pow ?c ?_); (case c => exact ⟨by decide, by decide, by decide⟩)))
local macro_rules | `(tactic| tm_at "s") => `(tactic| repeat tm_at "s1")
namespace K49
open PySem PySem.NumText PySem.Spec PyProof.Rows L2 L3 LamX RZ ClX
section
variable {P : Program} {w : World} {K : PySem.W.Frag} {mg : Str → Option Value} {base : Heap} {C : RA} {CR0 CY CS CR CM CL : Addr}
/-- what is said of no rule at all -/
theorem sp_void {P : Program} {w : World} {K : PySem.W.Frag} {mg : Str → Option Value} {base : Heap} {CX : CXT} {f : Addr} {fd : FuncData} {ps : List Str} {sp : Sp} (h : ∀ vs H Q E, ¬ sp vs H Q E) (k : Nat) : FnOk P w K mg base CX k f fd ps sp :=
  ⟨fun vs H Q E z => (h vs H Q E z).elim, fun A fr s H as us vs Q E hr e0 hb r z => (h _ _ _ _ z).elim⟩
end
end K49
end
section
local macro_rules | `(tactic| tm_at "s1") => `(tactic| first
  | with_reducible first
    | refine L3.s_seq ?_ | refine L3.s_asg ?_ | refine L3.s_op ?_ | refine L3.s_c ?_ | refine L3.s_cb ?_ | refine L3.s_cons ?_ | refine L3.s_nil ?_ | refine L3.s_test ?_ | refine L3.s_bl ?_
    | refine L3.s_I0 ?_ | refine L3.s_and ?_ | refine L3.s_or ?_ | refine L3.s_not ?_ | refine L3.s_if ?_ | refine L3.s_next ?_ | refine L3.s_ret ?_ | refine L3.s_retN ?_ | refine L3.s_asgS ?_ | refine L3.s_drop ?_
    | refine L3.s_un ?_ | refine L3.s_U ?_ | refine L3.s_int ?_ | refine L3.s_intB ?_ | refine L3.s_abs ?_ | refine L3.s_andV ?_ | refine L3.s_orV ?_ | refine L3.s_notV ?_ | refine L3.s_ifE ?_ | refine L3.s_call ?_ | refine L3.s_lst ?_ | refine L3.s_tup ?_ | refine L3.s_tB ?_
    | refine L3.s_addI ?_ | refine L3.s_inS ?_ | refine L3.s_ninS ?_ | refine L3.s_slice ?_ | refine L3.s_part ?_ | refine L3.s_partI ?_ | refine L3.s_nopart ?_ | refine L3.s_cI ?_ | refine L3.s_cB ?_ | refine L3.s_chain ?_ | refine L3.s_bm ?_ | refine L3.s_lcS ?_ | refine L3.s_lcR ?_ | refine L3.s_strE ?_
    | refine L2.iteT ?_ | refine L2.iteF ?_ | refine L3.iteNF ?_ | refine L3.iteNT ?_
    | refine L3.s_eqI ?_ | refine L3.s_neI ?_ | refine L3.s_eqS ?_ | refine L3.s_neS ?_
    | refine L3.s_pair ?_ | refine L3.s_pair2 ?_ | refine L3.s_fld ?_ | refine L3.s_make ?_ | refine L3.s_m1 ?_ | refine L3.s_isstr ?_
    | refine L3.s_xfV ?_ | refine L3.s_lstN ?_ | refine L3.s_callF ?_ | refine L3.s_lcL ?_ | refine L3.s_par3 ?_ | refine L3.s_trip ?_ | refine L3.s_asgT' ?_ | refine L3.s_gC ?_ | refine L3.s_gN ?_ | refine L3.s_fldG ?_ | refine L3.s_raise1 ?_ | refine L3.s_raise2 ?_ | refine L3.s_star ?_ | refine L3.s_mkCR ?_ | refine L3.s_lcZ ?_ | refine L3.s_forL ?_ | refine L3.s_forT ?_ | refine L3.s_gNm ?_ | refine L3.s_forE ?_ | refine L3.s_stC ?_ | refine L3.s_cmC ?_ | refine L3.s_forR1 ?_ | refine L3.s_lcTp ?_ | refine L3.s_forZ ?_ | refine L3.s_orT ?_ | refine L3.s_mt ?_ | refine L3.s_revT ?_ | refine L3.s_revL ?_ | refine L3.s_slOwn ?_ | refine L3.s_sl3 ?_ | refine L3.s_lcO ?_ | refine L3.s_stR ?_
    | refine L3.s_isN ?_ | refine L3.s_isB ?_ | refine L3.s_nisN ?_ | refine L3.s_nisB ?_
  | ((with_reducible refine' L3.s_var ?e ?_); (case e => rfl))
  | ((with_reducible refine' L3.s_aug ?e ?_); (case e => rfl))
  | ((with_reducible refine' L3.s_pow ?c ?_); (case c => exact ⟨by decide, by decide, by decide⟩)))
local macro_rules | `(tactic| tm_at "s") => `(tactic| repeat tm_at "s1")
namespace K49
open PySem PySem.NumText PySem.Spec PyProof.Rows L2 L3 LamX RZ ClX
abbrev s__law_leaf : Stmt := topS 43
theorem sc__law_leaf : FnScope ["_law_pen_here", "_law_x_so", "_law_y_so"] ["_law_pen_here"] (defScope s__law_leaf) := ⟨rfl, rfl, rfl, by decide +kernel, rfl, by decide +kernel, by decide +kernel⟩
abbrev s__law_plain : Stmt := topS 44
theorem sc__law_plain : FnScope ["_law_pen_here", "_law_many", "_law_few"] ["_law_pen_here", "_law_many"] (defScope s__law_plain) := ⟨rfl, rfl, rfl, by decide +kernel, rfl, by decide +kernel, by decide +kernel⟩
section
variable {P : Program} {w : World} {K : PySem.W.Frag} {mg : Str → Option Value} {base : Heap} {C : RA} {CR0 CY CS CR CM CL : Addr}
/-- what a drawn tree leaves -/
def PlGive (H : Hp) (p : Addr) (n k : Nat) (j : Nat) (Q : VK) : Prop := ∀ t v H' m, m ≤ n + k → RT.ok t → t.n = j → PlAt H' t v → Pen H' p m → (∀ b o, b ≠ p → H b = some o → H' b = some o) → Q v H'
def spLeaf : Sp := fun vs H Q _ => ∃ p n, vs = [.ref p] ∧ Pen H p n ∧ n + 10 < lim ∧ PlGive H p n 9 1 Q
theorem ok_leaf {f : Addr} {fd : FuncData} (F : Fun K "_law_leaf" "_law_leaf" s__law_leaf f fd) (T : Txt K mg C CR0 CY CS CR CM CL) (c__law_draw : Fn P w K mg base CX0 1 "_law_draw" ["_law_pen_here", "_law_many"] spDraw) (c__law_pick : Fn P w K mg base CX0 2 "_law_pick" ["_law_pen_here", "_law_some"] spPick) :
    FnG P w K mg base CX0 3 f fd ["_law_pen_here"] spLeaf := by
  refine funG F sc__law_leaf (fun vs H Q E h => ?_) (fun cd A fr s H vs Q E hr hg h => ?_)
  · obtain ⟨p, n, rfl, _⟩ := h; rfl
  · obtain ⟨p, n, rfl, hp, hn, k⟩ := h
    refine ⟨_, (pss_cons (ps_if (pt_cmpR (KX.eqU (K := K) rfl hr.units) (pe_f c__law_draw hr hg pass0 (pa_cons (pv 0) (pa_cons pe_int pa_nil))) pe_int (nomark _)) (pss_one (ps_ret (pe_tup (pa_cons pe_str (pa_cons (pe_f c__law_pick hr hg pass0 (pa_cons (pv 0) (pa_cons (pe_lst (pa_cons pe_int (pa_cons pe_int (pa_cons pe_int (pa_cons pe_int (pa_cons (pe_op op_pow pe_int pe_int) (pa_cons (pe_op opAdd pe_int (pe_f c__law_draw hr hg pass0 (pa_cons (pv 0) (pa_cons pe_int pa_nil)))) pa_nil))))))) pa_nil))) pa_nil))))) pss_nil)
      (pss_cons (ps_set (i := 1) sc__law_leaf.nd rfl (Or.inl rfl) (pe_f c__law_pick hr hg pass0 (pa_cons (pv 0) (pa_cons (pe_lst (pa_cons pe_int (pa_cons pe_int (pa_cons pe_int (pa_cons pe_int (pa_cons pe_int (pa_cons pe_int (pa_cons pe_int (pa_cons (pe_f c__law_draw hr hg pass0 (pa_cons (pv 0) (pa_cons pe_int pa_nil))) pa_nil))))))))) pa_nil))))
      (pss_cons (ps_set (i := 2) sc__law_leaf.nd rfl (Or.inl rfl) (pe_f c__law_pick hr hg pass0 (pa_cons (pv 0) (pa_cons (pe_lst (pa_cons pe_int (pa_cons pe_int (pa_cons pe_int (pa_cons (pe_un un_neg pe_int) (pa_cons pe_int (pa_cons (pe_un un_neg pe_int) (pa_cons pe_int (pa_cons (pe_un un_neg pe_int) (pa_cons (pe_op op_sub (pe_f c__law_draw hr hg pass0 (pa_cons (pv 0) (pa_cons pe_int pa_nil))) pe_int) pa_nil)))))))))) pa_nil))))
      (pss_one (ps_ret (pe_tup (pa_cons pe_str (pa_cons (pv 1) (pa_cons (pv 2) (pa_cons (pe_f c__law_pick hr hg pass0 (pa_cons (pv 0) (pa_cons (pe_lst (pa_cons pe_int (pa_cons pe_int (pa_cons pe_int (pa_cons pe_int (pa_cons pe_int (pa_cons pe_int (pa_cons pe_int (pa_cons (pe_op opAdd pe_int (pe_f c__law_draw hr hg pass0 (pa_cons (pv 0) (pa_cons pe_int pa_nil)))) pa_nil))))))))) pa_nil))) pa_nil)))))))))), ?_⟩
    tm_at "s"
    refine ⟨p, n, 4, rfl, by decide, by decide +kernel, hp, by omega, fun d H1 d0 d1 p1 k1 => ?_⟩
    tm_at "s"
    refine iteD (fun _ => ?_) (fun _ => ?_)
    · tm_at "s"
      refine ⟨p, n + 1, 30, rfl, by decide, by decide +kernel, p1, by omega, fun e H2 e0 e1 p2 k2 => ?_⟩
      tm_at "s"
      refine s_new (Nat.le_of_lt (small1000 (by simp))) fun z H3 n3 x3 h3 => ?_
      have p3 := p2.ex x3
      refine ⟨p, z, n + 1 + 1, _, rfl, h3, by simp, by simp, p3, by omega, fun v H4 hv p4 k4 => ?_⟩
      obtain ⟨i, rfl, hi⟩ : ∃ i : Int, v = .int i ∧ 1 ≤ i ∧ i ≤ 10 ^ 30 := by
        simp only [List.mem_cons, List.not_mem_nil, or_false] at hv
        rcases hv with rfl | rfl | rfl | rfl | rfl | rfl
        · exact ⟨_, rfl, by decide, by decide⟩
        · exact ⟨_, rfl, by decide, by decide⟩
        · exact ⟨_, rfl, by decide, by decide⟩
        · exact ⟨_, rfl, by decide, by decide⟩
        · exact ⟨_, rfl, by decide +kernel, by decide +kernel⟩
        · exact ⟨_, rfl, by omega, Int.le_trans (by omega : (1 + e : Int) ≤ 30) (by decide)⟩
      tm_at "s"
      refine s_new (Nat.le_of_lt (small1000 (by simp))) fun q H5 n5 x5 h5 => ?_
      exact k (.fx i) _ H5 (n + 1 + 1 + 1) (by omega) hi rfl ⟨q, rfl, h5⟩ (p4.ex x5) fun b o hb h => x5 _ _ (k4 b o hb (x3 _ _ (k2 b o hb (k1 b o hb h))))
    · tm_at "s"
      refine ⟨p, n + 1, 25, rfl, by decide, by decide +kernel, p1, by omega, fun e H2 e0 e1 p2 k2 => ?_⟩
      tm_at "s"
      refine s_new (Nat.le_of_lt (small1000 (by simp))) fun z H3 n3 x3 h3 => ?_
      refine ⟨p, z, n + 1 + 1, _, rfl, h3, by simp, by simp, p2.ex x3, by omega, fun v1 H4 hv1 p4 k4 => ?_⟩
      obtain ⟨x, rfl, hx⟩ : ∃ i : Int, v1 = .int i ∧ 0 ≤ i ∧ i ≤ 24 := by
        simp only [List.mem_cons, List.not_mem_nil, or_false] at hv1
        rcases hv1 with rfl | rfl | rfl | rfl | rfl | rfl | rfl | rfl <;> exact ⟨_, rfl, by omega, by omega⟩
      try dsimp only
      tm_at "s"
      refine ⟨p, n + 1 + 1 + 1, 41, rfl, by decide, by decide +kernel, p4, by omega, fun g H5 g0 g1 p5 k5 => ?_⟩
      tm_at "s"
      refine s_new (Nat.le_of_lt (small1000 (by simp))) fun z2 H6 n6 x6 h6 => ?_
      refine ⟨p, z2, n + 1 + 1 + 1 + 1, _, rfl, h6, by simp, by simp, p5.ex x6, by omega, fun v2 H7 hv2 p7 k7 => ?_⟩
      obtain ⟨y, rfl, hy⟩ : ∃ i : Int, v2 = .int i ∧ -1000 ≤ i ∧ i ≤ 1000 := by
        simp only [List.mem_cons, List.not_mem_nil, or_false] at hv2
        rcases hv2 with rfl | rfl | rfl | rfl | rfl | rfl | rfl | rfl | rfl <;> exact ⟨_, rfl, by omega, by omega⟩
      try dsimp only
      tm_at "s"
      refine ⟨p, n + 1 + 1 + 1 + 1 + 1, 24, rfl, by decide, by decide +kernel, p7, by omega, fun r H8 r0 r1 p8 k8 => ?_⟩
      tm_at "s"
      refine s_new (Nat.le_of_lt (small1000 (by simp))) fun z3 H9 n9 x9 h9 => ?_
      refine ⟨p, z3, n + 1 + 1 + 1 + 1 + 1 + 1, _, rfl, h9, by simp, by simp, p8.ex x9, by omega, fun v3 H10 hv3 p10 k10 => ?_⟩
      obtain ⟨w', rfl, hw⟩ : ∃ i : Int, v3 = .int i ∧ 1 ≤ i ∧ i ≤ 24 := by
        simp only [List.mem_cons, List.not_mem_nil, or_false] at hv3
        rcases hv3 with rfl | rfl | rfl | rfl | rfl | rfl | rfl | rfl <;> exact ⟨_, rfl, by omega, by omega⟩
      tm_at "s"
      refine s_new (Nat.le_of_lt (small1000 (by simp))) fun q H11 n11 x11 h11 => ?_
      exact k (.dv x y w') _ H11 (n + 1 + 1 + 1 + 1 + 1 + 1 + 1) (by omega) ⟨hx, hy, hw⟩ rfl ⟨q, rfl, h11⟩ (p10.ex x11) fun b o hb h => x11 _ _ (k10 b o hb (x9 _ _ (k8 b o hb (k7 b o hb (x6 _ _ (k5 b o hb (k4 b o hb (x3 _ _ (k2 b o hb (k1 b o hb h))))))))))
def spPlain (m : Nat) : Sp := fun vs H Q _ => ∃ p n j, vs = [.ref p, .int ((j : Nat) : Int)] ∧ 1 ≤ j ∧ j ≤ m ∧ m ≤ 10 ∧ Pen H p n ∧ n + 20 * j < lim ∧ PlGive H p n (12 * j - 2) j Q
theorem ok_plain {f : Addr} {fd : FuncData} (F : Fun K "_law_plain" "_law_plain" s__law_plain f fd) (T : Txt K mg C CR0 CY CS CR CM CL) (m : Nat) (c__law_draw : Fn P w K mg base CX0 1 "_law_draw" ["_law_pen_here", "_law_many"] spDraw) (c__law_pick : Fn P w K mg base CX0 2 "_law_pick" ["_law_pen_here", "_law_some"] spPick)
    (c__law_leaf : Fn P w K mg base CX0 3 "_law_leaf" ["_law_pen_here"] spLeaf) (c__law_plain : Fn P w K mg base CX0 (m + 3) "_law_plain" ["_law_pen_here", "_law_many"] (spPlain m)) :
    FnG P w K mg base CX0 (m + 4) f fd ["_law_pen_here", "_law_many"] (spPlain (m + 1)) := by
  refine funG F sc__law_plain (fun vs H Q E h => ?_) (fun cd A fr s H vs Q E hr hg h => ?_)
  · obtain ⟨p, n, j, rfl, _⟩ := h; rfl
  · obtain ⟨p, n, j, rfl, hj, hjm, hm, hp, hn, k⟩ := h
    refine ⟨_, (pss_cons (ps_if (pt_cmpR op_lt (pv 1) pe_int (nomark _)) (pss_one (ps_ret (pe_f (hk := by omega) c__law_leaf hr hg pass0 (pa_cons (pv 0) pa_nil)))) pss_nil)
      (pss_cons (ps_set (i := 2) sc__law_plain.nd rfl (Or.inl rfl) (pe_op opAdd pe_int (pe_f (hk := by omega) c__law_draw hr hg pass0 (pa_cons (pv 0) (pa_cons (pe_op op_sub (pv 1) pe_int) pa_nil)))))
      (pss_one (ps_ret (pe_tup (pa_cons (pe_f (hk := by omega) c__law_pick hr hg pass0 (pa_cons (pv 0) (pa_cons (pe_lst (pa_cons pe_str (pa_cons pe_str pa_nil))) pa_nil))) (pa_cons (pe_f (hk := by omega) c__law_plain hr hg pass0 (pa_cons (pv 0) (pa_cons (pv 2) pa_nil))) (pa_cons (pe_f (hk := by omega) c__law_plain hr hg pass0 (pa_cons (pv 0) (pa_cons (pe_op op_sub (pv 1) (pv 2)) pa_nil))) pa_nil)))))))), ?_⟩
    tm_at "s"
    refine iteD (fun h2 => ?_) (fun h2 => ?_)
    · have e : j = 1 := by omega
      subst e
      tm_at "s"
      exact ⟨p, n, rfl, hp, by omega, fun t v H' m' hm' a b c d e => k t v H' m' (by omega) a b c d e⟩
    · tm_at "s"
      refine ⟨p, n, (j : Int) - 1, rfl, by omega, lt8000s (by omega) (by omega), hp, by omega, fun d H1 d0 d1 p1 k1 => ?_⟩
      obtain ⟨i, hi⟩ : ∃ i : Nat, 1 + d = ((i : Nat) : Int) := ⟨(1 + d).toNat, by omega⟩
      try dsimp only
      tm_at "s"
      refine s_new (Nat.le_of_lt (small1000 (by simp))) fun z H2 n2 x2 h2' => ?_
      refine ⟨p, z, n + 1, _, rfl, h2', by simp, by simp, p1.ex x2, by omega, fun v H3 hv p3 k3 => ?_⟩
      obtain ⟨lo, rfl⟩ : ∃ lo, v = .str (sgnS lo) := by
        simp only [List.mem_cons, List.not_mem_nil, or_false] at hv
        rcases hv with rfl | rfl
        · exact ⟨true, rfl⟩
        · exact ⟨false, rfl⟩
      tm_at "s"
      rw [hi]
      refine ⟨p, n + 1 + 1, i, rfl, by omega, by omega, by omega, p3, by omega, fun a u1 H4 m4 hm4 oka na pa p4 k4 => ?_⟩
      tm_at "s"
      refine ⟨p, m4, j - i, by rw [show ((j : Nat) : Int) - ((i : Nat) : Int) = ((j - i : Nat) : Int) by omega]; rfl, by omega, by omega, by omega, p4, by omega, fun b u2 H5 m5 hm5 okb nb pb p5 k5 => ?_⟩
      tm_at "s"
      refine s_new (Nat.le_of_lt (small1000 (by simp))) fun q H6 n6 x6 h6 => ?_
      exact k (.jn lo a b) _ H6 m5 (by omega) ⟨oka, okb⟩ (by show a.n + b.n = j; omega) ⟨q, u1, u2, rfl, h6, (pa.keep p4 k5).ex x6, pb.ex x6⟩ (p5.ex x6) fun b o hb h => x6 _ _ (k5 b o hb (k4 b o hb (k3 b o hb (x2 _ _ (k1 b o hb h)))))
/-- the classes with & and | -/
def c5 (C : RA) (CY : Addr) : List Addr := [C.f, C.d, C.l, C.g, CY]
end
end K49
end
section
namespace L3
open PySem PySem.NumText PySem.Spec PyProof.Rows L2 LamX RZ ClX
end L3
end
section
namespace L3
open PySem PySem.NumText PySem.Spec PyProof.Rows L2 LamX RZ ClX
end L3
end
section
namespace L3
open PySem PySem.NumText PySem.Spec PyProof.Rows L2 LamX RZ ClX
/-- what is not tracked stays -/
def UnD (H0 H1 : Hp) (h0 h1 : Heap) : Prop := ∀ b o, h0.get? b = some o → H0 b = none → (∃ sl, h1.get? b = some { o with slots := sl }) ∧ H1 b = none
theorem UnD.trans {H0 H1 H2 : Hp} {h0 h1 h2 : Heap} (a : UnD H0 H1 h0 h1) (b : UnD H1 H2 h1 h2) : UnD H0 H2 h0 h2 := fun c o e n => by
  obtain ⟨⟨sl, e1⟩, n1⟩ := a c o e n
  obtain ⟨⟨sl2, e2⟩, n2⟩ := b c _ e1 n1
  exact ⟨⟨sl2, e2⟩, n2⟩
theorem UnD.of {fs : List Addr} {H H1 : Hp} {h h1 : Heap} (u : Un fs [] H H1 h h1) : UnD H H1 h h1 := fun b o e n => ⟨u.any e n (by simp), u.free b o e n (by simp)⟩
/-- a function that can be called in all states behind this one; tl: what its call comes to -/
def LamCan (P : Program) (w : World) (K : PySem.W.Frag) (mg : Str → Option Value) (base : Heap) (k : Nat) (f : Addr) (tl : V → XK → Hp → VK → Prop) (H0 : Hp) (s0 : Shared) : Prop :=
  ∀ (A : Around) (outer : List Env) (s1 : Shared) (H1 : Hp) (u : Value) (v : V) (Q : VK) (E : XK), Room k A → Env0 P w K mg base A outer s1 H1 → UnD H0 H1 s0.heap s1.heap → RelV v u → tl v E H1 Q → codeAny (model P w) A (.call (.ref f) ⟨[u], []⟩) (CR (L2.CX P w) outer P w H1 s1 Q E) s1
theorem LamCan.up {P : Program} {w : World} {K : PySem.W.Frag} {mg : Str → Option Value} {base : Heap} {k : Nat} {f : Addr} {tl : V → XK → Hp → VK → Prop} {H0 H1 : Hp} {s0 s1 : Shared} (c : LamCan P w K mg base k f tl H0 s0) (u : UnD H0 H1 s0.heap s1.heap) : LamCan P w K mg base k f tl H1 s1 :=
  fun A outer s2 H2 uu v Q E hr e0 un rv ht => c A outer s2 H2 uu v Q E hr e0 (u.trans un) rv ht
section
variable {X : Cx} {pins : List (Addr × Obj)} {σ : L2.St} {H : Hp} {s : Shared} {a C dx : Addr} {fs : List (Str × V)} {A : Around} {E : Value → Shared → Prop}
/-- a function object of any kind -/
def FnO' (H : Hp) (f : Addr) : Prop := (∃ env params body scope c', H f = some (LamO f env params body scope c')) ∨ ∃ q params body scope c', H f = some (LamF f q params body scope c')
theorem FnO'.exN {H H' : Hp} {f : Addr} (h : FnO' H f) (e : ExtN H H') : FnO' H' f :=
  Or.imp (fun ⟨env, a, b, c, d, h⟩ => ⟨env, a, b, c, d, e _ _ h fun _ z => by unfold LamO at z; cases z⟩) (fun ⟨q, a, b, c, d, h⟩ => ⟨q, a, b, c, d, e _ _ h fun _ z => by unfold LamF at z; cases z⟩) h
end
end L3
end
section
namespace L3
open PySem PySem.NumText PySem.Spec PyProof.Rows L2 LamX RZ ClX
theorem ty_str {K : PySem.W.Frag} {H : Hp} (i : Str) : TyA K H (.str i) (.type "str") := .x (.base (.str i))
theorem map_bl {α : Type} (f : α → Bool) (l : List α) : (l.map fun c => V.bl (f c)) = (l.map f).map V.bl := by rw [List.map_map]; rfl
theorem all_map {α : Type} (f : α → Bool) (l : List α) : (l.map f).all id = l.all f := by rw [List.all_map]; rfl
theorem filt_true {α : Type} (l : List α) : l.filter (fun _ => true) = l := List.filter_eq_self.mpr fun _ _ => rfl
theorem sz_of {n : Nat} (h : n ≤ 100000) : n < sizeLine := Nat.lt_of_le_of_lt h (by decide)
theorem fig_parts {z : Str} (h : figB z = true) : (figsOf z).cps.toList ≠ [] ∧ (figsOf z).cps.toList.all isDig = true ∧ (figsOf z).length ≤ 4000 := by
  unfold figB at h
  simp only [Bool.and_eq_true, decide_eq_true_eq] at h
  obtain ⟨⟨⟨h1, h2⟩, h3⟩, _⟩ := h
  refine ⟨fun e => ?_, h3, by omega⟩
  have := len_codes (figsOf z)
  rw [e] at this
  simp at this
  omega
def numB (z : Str) (lo hi : Int) : Bool := figB z && (decide (lo ≤ valOf z) && decide (valOf z ≤ hi))
def toks : RT → List Str
  | .fx s => ["fixed", strOf s]
  | .dv x y w => ["divided", strOf x, strOf y, strOf w]
  | .jn lo a b => "(" :: (toks a ++ (sgnS lo :: (toks b ++ [(")" : Str)])))
theorem toks_jn (lo : Bool) (a b : RT) : toks (.jn lo a b) = ("(" : Str) :: (toks a ++ (sgnS lo :: (toks b ++ [(")" : Str)]))) := rfl
def textT : RT → Str
  | .fx s => "fixed " ++ strOf s
  | .dv x y w => "divided " ++ strOf x ++ " " ++ strOf y ++ " " ++ strOf w
  | .jn lo a b => "( " ++ textT a ++ " " ++ sgnS lo ++ " " ++ textT b ++ " )"
def wAt (ws : List Str) (i : Nat) : Str := ws.getD i ""
def bnds (w : Str) : Option (List (Int × Int)) := if w = "fixed" then some [(1, 10 ^ 30)] else if w = "divided" then some [(0, 24), (-1000, 1000), (1, 24)] else none
def numsE (ws : List Str) : Nat → List (Int × Int) → Except Nat Nat
  | i, [] => .ok i
  | i, b :: r => if numB (wAt ws i) b.1 b.2 = true then numsE ws (i + 1) r else .error i
def rEnd (ws : List Str) : Nat → Nat → Nat → Except Nat (Nat × Nat)
  | 0, at_, _ => .error at_
  | f + 1, at_, many =>
    if wAt ws at_ = "(" then
      match rEnd ws f (at_ + 1) many with
      | .error e => .error e
      | .ok (i, m) =>
        if wAt ws i = "&" ∨ wAt ws i = "|" then
          match rEnd ws f (i + 1) m with
          | .error e => .error e
          | .ok (j, m') => if wAt ws j = ")" then .ok (j + 1, m') else .error j
        else .error i
    else match bnds (wAt ws at_) with
      | none => .error at_
      | some b => if many = 6 then .error at_ else
        match numsE ws (at_ + 1) b with
        | .error e => .error e
        | .ok j => .ok (j, many + 1)
/-- the walk with a stack: the program's own way -/
def mrun (ws : List Str) : Nat → Nat → Nat → List Bool → Bool → Except Nat Nat
  | 0, _, _, _, _ => .error 0
  | f + 1, at_, many, op, true =>
    if wAt ws at_ = "(" then mrun ws f (at_ + 1) many (false :: op) true
    else match bnds (wAt ws at_) with
      | none => .error at_
      | some b => if many = 6 then .error at_ else
        match numsE ws (at_ + 1) b with
        | .error e => .error e
        | .ok j => mrun ws f j (many + 1) op false
  | _ + 1, at_, _, [], false => .ok at_
  | f + 1, at_, many, false :: r, false => if wAt ws at_ = "&" ∨ wAt ws at_ = "|" then mrun ws f (at_ + 1) many (true :: r) true else .error at_
  | f + 1, at_, many, true :: r, false => if wAt ws at_ = ")" then mrun ws f (at_ + 1) many r false else .error at_
section
variable {ws : List Str}
theorem wAt_lt {i : Nat} (h : wAt ws i ≠ "") : i < ws.length := by
  refine Nat.lt_of_not_le fun z => h ?_
  unfold wAt
  rw [List.getD_eq_getElem?_getD, List.getElem?_eq_none z]; rfl
theorem wAt_get {i : Nat} (h : i < ws.length) : wAt ws i = ws[i] := by
  unfold wAt
  rw [List.getD_eq_getElem?_getD, List.getElem?_eq_getElem h]; rfl
theorem wAt_out {i : Nat} (h : ws.length ≤ i) : wAt ws i = "" := by
  unfold wAt
  rw [List.getD_eq_getElem?_getD, List.getElem?_eq_none h]; rfl
theorem numB_nil (lo hi : Int) : numB "" lo hi = false := by
  unfold numB
  rw [show figB "" = false by decide +kernel, Bool.false_and]
theorem numB_lt {i : Nat} {lo hi : Int} (h : numB (wAt ws i) lo hi = true) : i < ws.length := wAt_lt fun z => by rw [z, numB_nil] at h; cases h
theorem numsE_ok : ∀ {b : List (Int × Int)} {i j : Nat}, numsE ws i b = .ok j → j = i + b.length ∧ (b ≠ [] → j ≤ ws.length) := by
  intro b
  induction b with
  | nil => intro i j h; cases h; exact ⟨rfl, fun z => absurd rfl z⟩
  | cons x r ih =>
    intro i j h
    unfold numsE at h
    split at h
    · rename_i hb
      have hl := numB_lt hb
      obtain ⟨h1, h2⟩ := ih h
      refine ⟨by rw [h1, List.length_cons]; omega, fun _ => ?_⟩
      cases r with
      | nil => rw [h1]; simp; omega
      | cons y s => exact h2 (by simp)
    · cases h
theorem bnds_ne {w : Str} {b : List (Int × Int)} (h : bnds w = some b) : b ≠ [] ∧ b.length ≤ 3 ∧ w ≠ "" := by
  unfold bnds at h
  split at h
  · rename_i h1; cases h; exact ⟨by simp, by simp, by rw [h1]; decide⟩
  · split at h
    · rename_i h1; cases h; exact ⟨by simp, by simp, by rw [h1]; decide⟩
    · cases h
theorem rEnd_ok : ∀ {f i m j m' : Nat}, rEnd ws f i m = .ok (j, m') → i < j ∧ j ≤ ws.length ∧ m < m' := by
  intro f
  induction f with
  | zero => intro i m j m' h; cases h
  | succ f ih =>
    intro i m j m' h
    unfold rEnd at h
    split at h
    · split at h
      · cases h
      · rename_i i1 m1 e1
        have h1 := ih e1
        split at h
        · split at h
          · cases h
          · rename_i j1 m2 e2
            have h2 := ih e2
            split at h
            · rename_i hw
              have hl := wAt_lt (ws := ws) (i := j1) (by rw [hw]; decide)
              cases h
              omega
            · cases h
        · cases h
    · split at h
      · cases h
      · rename_i b hb
        have hb' := bnds_ne hb
        split at h
        · cases h
        · split at h
          · cases h
          · rename_i j1 e1
            have h1 := numsE_ok e1
            have := h1.2 hb'.1
            cases h
            omega
/-- the stack walk does what the descent does -/
theorem mrun_end : ∀ {f g i m : Nat} {op : List Bool}, ws.length + 1 - i ≤ f → i ≤ ws.length → ws.length + 2 ≤ g + i →
    (∀ e, rEnd ws f i m = .error e → mrun ws g i m op true = .error e) ∧ (∀ j m', rEnd ws f i m = .ok (j, m') → ∃ g', ws.length + 2 ≤ g' + j ∧ mrun ws g i m op true = mrun ws g' j m' op false) := by
  intro f
  induction f with
  | zero => intro g i m op h1 h2; omega
  | succ f ih =>
    intro g i m op h1 h2 h3
    obtain ⟨g, rfl⟩ : ∃ g', g = g' + 1 := ⟨g - 1, by omega⟩
    rw [show rEnd ws (f + 1) i m = (if wAt ws i = "(" then
      match rEnd ws f (i + 1) m with
      | .error e => .error e
      | .ok (i, m) =>
        if wAt ws i = "&" ∨ wAt ws i = "|" then
          match rEnd ws f (i + 1) m with
          | .error e => .error e
          | .ok (j, m') => if wAt ws j = ")" then .ok (j + 1, m') else .error j
        else .error i
    else match bnds (wAt ws i) with
      | none => .error i
      | some b => if m = 6 then .error i else
        match numsE ws (i + 1) b with
        | .error e => .error e
        | .ok j => .ok (j, m + 1)) from rfl]
    rw [show mrun ws (g + 1) i m op true = (if wAt ws i = "(" then mrun ws g (i + 1) m (false :: op) true
    else match bnds (wAt ws i) with
      | none => .error i
      | some b => if m = 6 then .error i else
        match numsE ws (i + 1) b with
        | .error e => .error e
        | .ok j => mrun ws g j (m + 1) op false) from rfl]
    by_cases hw : wAt ws i = "("
    · have hl := wAt_lt (ws := ws) (i := i) (by rw [hw]; decide)
      rw [if_pos hw, if_pos hw]
      obtain ⟨a1, a2⟩ := ih (g := g) (i := i + 1) (m := m) (op := false :: op) (by omega) (by omega) (by omega)
      cases e1 : rEnd ws f (i + 1) m with
      | error e =>
        rw [a1 e e1]
        exact ⟨fun e' h => (by cases h; rfl), fun j m' h => (by cases h)⟩
      | ok p =>
        obtain ⟨i1, m1⟩ := p
        have h5 := rEnd_ok e1
        obtain ⟨g1, hg1, q1⟩ := a2 i1 m1 e1
        obtain ⟨g1, rfl⟩ : ∃ g', g1 = g' + 1 := ⟨g1 - 1, by omega⟩
        rw [q1]
        rw [show mrun ws (g1 + 1) i1 m1 (false :: op) false = (if wAt ws i1 = "&" ∨ wAt ws i1 = "|" then mrun ws g1 (i1 + 1) m1 (true :: op) true else .error i1) from rfl]
        dsimp only
        by_cases hs : wAt ws i1 = "&" ∨ wAt ws i1 = "|"
        · have hl2 := wAt_lt (ws := ws) (i := i1) (by rcases hs with q | q <;> rw [q] <;> decide)
          rw [if_pos hs, if_pos hs]
          obtain ⟨b1, b2⟩ := ih (g := g1) (i := i1 + 1) (m := m1) (op := true :: op) (by omega) (by omega) (by omega)
          cases e2 : rEnd ws f (i1 + 1) m1 with
          | error e =>
            rw [b1 e e2]
            exact ⟨fun e' h => (by cases h; rfl), fun j m' h => (by cases h)⟩
          | ok p =>
            obtain ⟨j1, m2⟩ := p
            have h6 := rEnd_ok e2
            obtain ⟨g2, hg2, q2⟩ := b2 j1 m2 e2
            obtain ⟨g2, rfl⟩ : ∃ g', g2 = g' + 1 := ⟨g2 - 1, by omega⟩
            rw [q2]
            rw [show mrun ws (g2 + 1) j1 m2 (true :: op) false = (if wAt ws j1 = ")" then mrun ws g2 (j1 + 1) m2 op false else .error j1) from rfl]
            dsimp only
            by_cases hc : wAt ws j1 = ")"
            · rw [if_pos hc, if_pos hc]
              exact ⟨fun e' h => (by cases h), fun j m' h => (by cases h; exact ⟨g2, by omega, rfl⟩)⟩
            · rw [if_neg hc, if_neg hc]
              exact ⟨fun e' h => (by cases h; rfl), fun j m' h => (by cases h)⟩
        · rw [if_neg hs, if_neg hs]
          exact ⟨fun e' h => (by cases h; rfl), fun j m' h => (by cases h)⟩
    · rw [if_neg hw, if_neg hw]
      cases hb : bnds (wAt ws i) with
      | none => exact ⟨fun e' h => (by cases h; rfl), fun j m' h => (by cases h)⟩
      | some b =>
        dsimp only
        by_cases hm : m = 6
        · rw [if_pos hm, if_pos hm]
          exact ⟨fun e' h => (by cases h; rfl), fun j m' h => (by cases h)⟩
        · rw [if_neg hm, if_neg hm]
          cases e1 : numsE ws (i + 1) b with
          | error e => exact ⟨fun e' h => (by cases h; rfl), fun j m' h => (by cases h)⟩
          | ok j1 =>
            have h5 := numsE_ok e1
            refine ⟨fun e' h => (by cases h), fun j m' h => ?_⟩
            cases h
            exact ⟨g, by omega, rfl⟩
/-- the whole walk -/
def ruleEnd (ws : List Str) : Except Nat Nat := match rEnd ws (ws.length + 1) 0 0 with
  | .ok (j, _) => .ok j
  | .error e => .error e
theorem mrun_top : mrun ws (ws.length + 2) 0 0 [] true = ruleEnd ws := by
  obtain ⟨a, b⟩ := mrun_end (ws := ws) (f := ws.length + 1) (g := ws.length + 2) (i := 0) (m := 0) (op := []) (by omega) (by omega) (by omega)
  unfold ruleEnd
  cases e : rEnd ws (ws.length + 1) 0 0 with
  | error x => exact a x e
  | ok p =>
    obtain ⟨j, m'⟩ := p
    have h5 := rEnd_ok e
    obtain ⟨g, hg, q⟩ := b j m' e
    rw [q]
    obtain ⟨g, rfl⟩ : ∃ g', g = g' + 1 := ⟨g - 1, by omega⟩
    rfl
theorem str32 (n : Int) : 32 ∉ (strOf n).cps.toList := by
  rcases strOf_cases n with ⟨m, rfl, h⟩ | ⟨m, _, rfl, h⟩
  · rw [h]; exact TL.numL_free (.inl (by decide))
  · rw [h]
    intro z
    rcases List.mem_cons.mp z with z | z
    · cases z
    · exact TL.numL_free (.inl (by decide)) z
theorem toks_ne : ∀ t : RT, toks t ≠ []
  | .fx _ => by unfold toks; simp
  | .dv _ _ _ => by unfold toks; simp
  | .jn _ _ _ => by unfold toks; simp
theorem numB_iff {z : Str} {lo hi : Int} (hlo : -(10 ^ 31) ≤ lo) (hhi : hi ≤ 10 ^ 31) : numB z lo hi = true ↔ ∃ n : Int, z = strOf n ∧ lo ≤ n ∧ n ≤ hi := by
  constructor
  · intro h
    unfold numB at h
    simp only [Bool.and_eq_true, decide_eq_true_eq] at h
    obtain ⟨h1, h2, h3⟩ := h
    refine ⟨valOf z, ?_, h2, h3⟩
    obtain ⟨g1, g2, _⟩ := fig_parts h1
    have hb := str_back g1 g2
    unfold figB at h1
    simp only [Bool.and_eq_true] at h1
    rw [h1.2] at hb
    have h9 : strOf (valOf z) = z := by simpa using hb.symm
    exact h9.symm
  · rintro ⟨n, rfl, h1, h2⟩
    unfold numB
    rw [val_strOf, decide_eq_true h1, decide_eq_true h2, figB_strOf]
    · rfl
    · have : n.natAbs ≤ 10 ^ 31 := by omega
      exact Nat.lt_of_le_of_lt this (Nat.pow_lt_pow_right (by decide) (by decide))
theorem drop_get {α : Type} {l : List α} {i : Nat} {x : α} {r : List α} (h : l.drop i = x :: r) : l[i]? = some x ∧ l.drop (i + 1) = r := by
  constructor
  · have := congrArg (fun m : List α => m[0]?) h
    simpa using this
  · have := congrArg List.tail h
    rw [List.tail_drop] at this
    exact this
theorem drop_app {α : Type} {l xs r : List α} {i : Nat} (h : l.drop i = xs ++ r) : l.drop (i + xs.length) = r := by
  rw [← List.drop_drop, h, List.drop_left]
theorem wAt_of {i : Nat} {x : Str} (h : ws[i]? = some x) : wAt ws i = x := by
  unfold wAt
  rw [List.getD_eq_getElem?_getD, h]; rfl
theorem drop_wAt {i : Nat} (h : wAt ws i ≠ "") : ws.drop i = wAt ws i :: ws.drop (i + 1) := by
  have hl := wAt_lt h
  rw [wAt_get hl]
  exact List.drop_eq_getElem_cons hl
/-- what the descent lets through is a rule's text -/
theorem rEnd_tree : ∀ {f i m j m' : Nat}, m ≤ 6 → rEnd ws f i m = .ok (j, m') → ∃ t : RT, t.ok ∧ m' = m + t.n ∧ m' ≤ 6 ∧ j = i + (toks t).length ∧ ws.drop i = toks t ++ ws.drop j := by
  intro f
  induction f with
  | zero => intro i m j m' _ h; cases h
  | succ f ih =>
    intro i m j m' hm h
    unfold rEnd at h
    split at h
    · rename_i hw
      split at h
      · cases h
      · rename_i i1 m1 e1
        obtain ⟨a, oka, na, h6a, ja, da⟩ := ih hm e1
        split at h
        · rename_i hs
          split at h
          · cases h
          · rename_i j1 m2 e2
            obtain ⟨b, okb, nb, h6b, jb, db⟩ := ih h6a e2
            split at h
            · rename_i hc
              cases h
              have d0 := drop_wAt (ws := ws) (i := i) (by rw [hw]; decide)
              have d2 := drop_wAt (ws := ws) (i := j1) (by rw [hc]; decide)
              rcases hs with hs | hs
              · have d1 := drop_wAt (ws := ws) (i := i1) (by rw [hs]; decide)
                refine ⟨.jn true a b, ⟨oka, okb⟩, by show _ = m + (a.n + b.n); omega, h6b, by rw [toks_jn]; simp; omega, ?_⟩
                rw [d0, da, d1, db, d2, hw, hs, hc, toks_jn]
                simp [sgnS]
              · have d1 := drop_wAt (ws := ws) (i := i1) (by rw [hs]; decide)
                refine ⟨.jn false a b, ⟨oka, okb⟩, by show _ = m + (a.n + b.n); omega, h6b, by rw [toks_jn]; simp; omega, ?_⟩
                rw [d0, da, d1, db, d2, hw, hs, hc, toks_jn]
                simp [sgnS]
            · cases h
        · cases h
    · split at h
      · cases h
      · rename_i b hb
        split at h
        · cases h
        · rename_i hm6
          split at h
          · cases h
          · rename_i j1 e1
            cases h
            have hne := (bnds_ne hb).2.2
            have d0 := drop_wAt hne
            unfold bnds at hb
            split at hb
            · rename_i hf
              cases hb
              unfold numsE at e1
              split at e1
              · rename_i n1
                unfold numsE at e1
                cases e1
                obtain ⟨n, hn, h1, h2⟩ := (numB_iff (by decide) (by decide)).mp n1
                have d1 := drop_wAt (ws := ws) (i := i + 1) (by intro z; rw [z, numB_nil] at n1; cases n1)
                refine ⟨.fx n, ⟨h1, h2⟩, rfl, by show m + 1 ≤ 6; omega, by unfold toks; simp, ?_⟩
                rw [d0, d1, hf, hn]
                unfold toks
                simp
              · cases e1
            · split at hb
              · rename_i hf
                cases hb
                unfold numsE at e1
                split at e1
                · rename_i n1
                  unfold numsE at e1
                  split at e1
                  · rename_i n2
                    unfold numsE at e1
                    split at e1
                    · rename_i n3
                      unfold numsE at e1
                      cases e1
                      obtain ⟨x, hx, x1, x2⟩ := (numB_iff (by decide) (by decide)).mp n1
                      obtain ⟨y, hy, y1, y2⟩ := (numB_iff (by decide) (by decide)).mp n2
                      obtain ⟨z, hz, z1, z2⟩ := (numB_iff (by decide) (by decide)).mp n3
                      have d1 := drop_wAt (ws := ws) (i := i + 1) (by intro z; rw [z, numB_nil] at n1; cases n1)
                      have d2 := drop_wAt (ws := ws) (i := i + 1 + 1) (by intro z; rw [z, numB_nil] at n2; cases n2)
                      have d3 := drop_wAt (ws := ws) (i := i + 1 + 1 + 1) (by intro z; rw [z, numB_nil] at n3; cases n3)
                      refine ⟨.dv x y z, ⟨⟨x1, x2⟩, ⟨y1, y2⟩, ⟨z1, z2⟩⟩, rfl, by show m + 1 ≤ 6; omega, by unfold toks; simp, ?_⟩
                      rw [d0, d1, d2, d3, hf, hx, hy, hz]
                      unfold toks
                      simp
                    · cases e1
                  · cases e1
                · cases e1
              · cases hb
theorem numB_of {n lo hi : Int} (h1 : lo ≤ n) (h2 : n ≤ hi) (hlo : -(10 ^ 31) ≤ lo) (hhi : hi ≤ 10 ^ 31) : numB (strOf n) lo hi = true := (numB_iff hlo hhi).mpr ⟨n, rfl, h1, h2⟩
/-- a rule's text goes through -/
theorem rEnd_toks : ∀ {t : RT} {f i m : Nat} {r : List Str}, t.ok → m + t.n ≤ 6 → ws.length + 1 - i ≤ f → ws.drop i = toks t ++ r → rEnd ws f i m = .ok (i + (toks t).length, m + t.n) := by
  intro t
  induction t with
  | fx s =>
    intro f i m r ok hm hf hd
    obtain ⟨g1, q1⟩ := drop_get hd
    obtain ⟨g2, q2⟩ := drop_get q1
    have hl := (List.getElem?_eq_some_iff.mp g1).1
    obtain ⟨f, rfl⟩ : ∃ f', f = f' + 1 := ⟨f - 1, by omega⟩
    have hm' : m ≠ 6 := fun z => by have h : m + 1 ≤ 6 := hm; omega
    unfold rEnd
    rw [wAt_of g1, if_neg (by decide), show bnds "fixed" = some [(1, 10 ^ 30)] from rfl]
    dsimp only
    rw [if_neg hm']
    unfold numsE
    rw [wAt_of g2, if_pos (numB_of ok.1 ok.2 (by decide) (by decide))]
    rfl
  | dv x y z =>
    intro f i m r ok hm hf hd
    obtain ⟨g1, q1⟩ := drop_get hd
    obtain ⟨g2, q2⟩ := drop_get q1
    obtain ⟨g3, q3⟩ := drop_get q2
    obtain ⟨g4, q4⟩ := drop_get q3
    have hl := (List.getElem?_eq_some_iff.mp g1).1
    obtain ⟨f, rfl⟩ : ∃ f', f = f' + 1 := ⟨f - 1, by omega⟩
    have hm' : m ≠ 6 := fun z => by have h : m + 1 ≤ 6 := hm; omega
    unfold rEnd
    rw [wAt_of g1, if_neg (by decide), show bnds "divided" = some [(0, 24), (-1000, 1000), (1, 24)] from rfl]
    dsimp only
    rw [if_neg hm']
    unfold numsE
    rw [wAt_of g2, if_pos (numB_of ok.1.1 ok.1.2 (by decide) (by decide))]
    unfold numsE
    rw [wAt_of g3, if_pos (numB_of ok.2.1.1 ok.2.1.2 (by decide) (by decide))]
    unfold numsE
    rw [wAt_of g4, if_pos (numB_of ok.2.2.1 ok.2.2.2 (by decide) (by decide))]
    rfl
  | jn lo a b iha ihb =>
    intro f i m r ok hm hf hd
    have hm2 : m + (a.n + b.n) ≤ 6 := hm
    have hd' : ws.drop i = ("(" : Str) :: (toks a ++ (sgnS lo :: (toks b ++ ((")" : Str) :: r)))) := by rw [hd, toks_jn]; simp
    obtain ⟨g1, q1⟩ := drop_get hd'
    have hl := (List.getElem?_eq_some_iff.mp g1).1
    have q2 := drop_app q1
    obtain ⟨g3, q3⟩ := drop_get q2
    have q4 := drop_app q3
    obtain ⟨g5, q5⟩ := drop_get q4
    have hl3 := (List.getElem?_eq_some_iff.mp g3).1
    obtain ⟨f, rfl⟩ : ∃ f', f = f' + 1 := ⟨f - 1, by omega⟩
    unfold rEnd
    rw [wAt_of g1, if_pos rfl, iha ok.1 (by omega) (by omega) q1]
    dsimp only
    rw [wAt_of g3, if_pos (by cases lo <;> decide), ihb ok.2 (by omega) (by omega) q3]
    dsimp only
    rw [wAt_of g5, if_pos rfl]
    have e1 : (toks (.jn lo a b)).length = 1 + (toks a).length + 1 + (toks b).length + 1 := by rw [toks_jn]; simp; omega
    have e2 : (RT.jn lo a b).n = a.n + b.n := rfl
    rw [e1, e2]
    congr 2
    · omega
    · omega
theorem ruleEnd_toks {t : RT} (ok : t.ok) (hn : t.n ≤ 6) : ruleEnd (toks t) = .ok (toks t).length := by
  unfold ruleEnd
  rw [rEnd_toks (ws := toks t) (t := t) (r := []) ok (by omega) (by omega) (by simp)]
  simp
theorem ruleEnd_tree {j : Nat} (h : ruleEnd ws = .ok j) : ∃ t : RT, t.ok ∧ t.n ≤ 6 ∧ j = (toks t).length ∧ j ≤ ws.length ∧ ws = toks t ++ ws.drop j := by
  unfold ruleEnd at h
  split at h
  · rename_i j' m' e
    cases h
    obtain ⟨t, ok, h1, h2, h3, h4⟩ := rEnd_tree (by decide) e
    have := rEnd_ok e
    exact ⟨t, ok, by omega, by omega, by omega, h4⟩
  · cases h
theorem tok_free : ∀ t : RT, ∀ p ∈ toks t, 32 ∉ p.cps.toList := by
  intro t
  induction t with
  | fx s =>
    intro p hp
    unfold toks at hp
    simp only [List.mem_cons, List.not_mem_nil, or_false] at hp
    rcases hp with rfl | rfl
    · decide +kernel
    · exact str32 s
  | dv x y w =>
    intro p hp
    unfold toks at hp
    simp only [List.mem_cons, List.not_mem_nil, or_false] at hp
    rcases hp with rfl | rfl | rfl | rfl
    · decide +kernel
    · exact str32 x
    · exact str32 y
    · exact str32 w
  | jn lo a b ha hb =>
    intro p hp
    unfold toks at hp
    simp only [List.mem_cons, List.mem_append, List.not_mem_nil, or_false] at hp
    rcases hp with rfl | hp | rfl | hp | rfl
    · decide +kernel
    · exact ha p hp
    · cases lo <;> decide +kernel
    · exact hb p hp
    · decide +kernel
theorem joinL_app (S : List Nat) : ∀ (ps qs : List (List Nat)), ps ≠ [] → qs ≠ [] → TL.joinL S (ps ++ qs) = TL.joinL S ps ++ (S ++ TL.joinL S qs) := by
  intro ps
  induction ps with
  | nil => intro qs h; exact absurd rfl h
  | cons a r ih =>
    intro qs _ hq
    cases r with
    | nil =>
      cases qs with
      | nil => exact absurd rfl hq
      | cons q s => rfl
    | cons b s =>
      have := ih qs (by simp) hq
      show a ++ (S ++ TL.joinL S ((b :: s) ++ qs)) = (a ++ (S ++ TL.joinL S (b :: s))) ++ (S ++ TL.joinL S qs)
      rw [this]; simp
theorem joinL_cons {S : List Nat} (x : List Nat) (l : List (List Nat)) (h : l ≠ []) : TL.joinL S (x :: l) = x ++ (S ++ TL.joinL S l) := by
  cases l with
  | nil => exact absurd rfl h
  | cons y r => rfl
theorem tl_textT : ∀ t : RT, TL.tl (textT t) = TL.joinL [32] ((toks t).map TL.tl) := by
  intro t
  induction t with
  | fx s =>
    unfold textT toks
    rw [TL.tl_append]
    show TL.tl "fixed " ++ _ = TL.tl "fixed" ++ ([32] ++ TL.tl (strOf s))
    rw [show TL.tl "fixed " = TL.tl "fixed" ++ [32] by decide +kernel]; simp
  | dv x y w =>
    unfold textT toks
    repeat rw [TL.tl_append]
    show _ = TL.tl "divided" ++ ([32] ++ (TL.tl (strOf x) ++ ([32] ++ (TL.tl (strOf y) ++ ([32] ++ TL.tl (strOf w))))))
    rw [show TL.tl "divided " = TL.tl "divided" ++ [32] by decide +kernel, show TL.tl " " = [32] by decide +kernel]; simp
  | jn lo a b ha hb =>
    have na : (toks a).map TL.tl ≠ [] := by simpa using toks_ne a
    have nb : (toks b).map TL.tl ≠ [] := by simpa using toks_ne b
    have e1 : TL.joinL [32] ((toks (.jn lo a b)).map TL.tl) = TL.tl "(" ++ ([32] ++ (TL.joinL [32] ((toks a).map TL.tl) ++ ([32] ++ (TL.tl (sgnS lo) ++ ([32] ++ (TL.joinL [32] ((toks b).map TL.tl) ++ ([32] ++ TL.tl ")"))))))) := by
      rw [toks_jn, List.map_cons, List.map_append, List.map_cons, List.map_append, joinL_cons _ _ (by simp), joinL_app _ _ _ na (by simp), joinL_cons _ _ (by simp [nb]), joinL_app _ _ _ nb (by simp)]
      rfl
    rw [e1]
    show TL.tl ("( " ++ textT a ++ " " ++ sgnS lo ++ " " ++ textT b ++ " )") = _
    repeat rw [TL.tl_append]
    rw [ha, hb, show TL.tl "( " = TL.tl "(" ++ [32] by decide +kernel, show TL.tl " " = [32] by decide +kernel, show TL.tl " )" = [32] ++ TL.tl ")" by decide +kernel]
    simp
theorem textT_join (t : RT) : textT t = Txt.join " " (toks t) := by
  refine str_ext ?_
  show TL.tl (textT t) = TL.tl (Txt.join " " (toks t))
  rw [tl_textT, TL.join_eq, TL.tl_join, show TL.tl " " = [32] by decide +kernel]
theorem wds_textT (t : RT) : wds (textT t) = toks t := by
  rw [textT_join]
  exact wds_join (toks_ne t) (tok_free t)
theorem toks_len : ∀ t : RT, (toks t).length + 3 ≤ 7 * t.n ∧ 2 ≤ (toks t).length
  | .fx _ => by unfold toks; exact ⟨(by show 2 + 3 ≤ 7 * 1; decide), by simp⟩
  | .dv _ _ _ => by unfold toks; exact ⟨(by show 4 + 3 ≤ 7 * 1; decide), by simp⟩
  | .jn lo a b => by
    have ha := toks_len a
    have hb := toks_len b
    unfold toks
    show _ + 3 ≤ 7 * (a.n + b.n) ∧ _
    simp only [List.length_cons, List.length_append, List.length_nil]
    omega
theorem tok_pt : ∀ t : RT, t.ok → ∀ p ∈ toks t, Pt 40 p := by
  have num : ∀ n : Int, -(10 ^ 30) ≤ n → n ≤ 10 ^ 30 → Pt 40 (strOf n) := fun n h1 h2 => by
    have h : Pg 32 (strOf n) := pg_strOf (k := 31) (by decide) (by have : n.natAbs ≤ 10 ^ 30 := by omega
                                                                   exact Nat.lt_of_le_of_lt this (Nat.pow_lt_pow_right (by decide) (by decide)))
    exact ⟨Nat.le_trans h.1 (by decide), h.2⟩
  intro t
  induction t with
  | fx s =>
    intro ok p hp
    unfold toks at hp
    simp only [List.mem_cons, List.not_mem_nil, or_false] at hp
    have h1 : 1 ≤ s := ok.1
    rcases hp with rfl | rfl
    · exact pt_of (by decide +kernel)
    · exact num _ (by omega) ok.2
  | dv x y w =>
    intro ok p hp
    unfold toks at hp
    simp only [List.mem_cons, List.not_mem_nil, or_false] at hp
    obtain ⟨hx, hy, hw⟩ := ok
    rcases hp with rfl | rfl | rfl | rfl
    · exact pt_of (by decide +kernel)
    · exact num _ (by omega) (by omega)
    · exact num _ (by omega) (by omega)
    · exact num _ (by omega) (by omega)
  | jn lo a b ha hb =>
    intro ok p hp
    unfold toks at hp
    simp only [List.mem_cons, List.mem_append, List.not_mem_nil, or_false] at hp
    rcases hp with rfl | hp | rfl | hp | rfl
    · exact pt_of (by decide +kernel)
    · exact ha ok.1 p hp
    · cases lo
      · exact pt_of (by decide +kernel)
      · exact pt_of (by decide +kernel)
    · exact hb ok.2 p hp
    · exact pt_of (by decide +kernel)
theorem textT_pt {t : RT} (ok : t.ok) : Pt (300 * t.n) (textT t) := by
  rw [textT_join]
  have h := pt_join (n := 7 * t.n) (tok_pt t ok) (by have := toks_len t; omega)
  exact ⟨Nat.le_trans h.1 (by omega), h.2⟩
end
end L3
end
section
namespace L3
open PySem PySem.NumText PySem.Spec PyProof.Rows L2 LamX RZ ClX
structure MeF (P : Program) (w : World) (K : PySem.W.Frag) (mg : Str → Option Value) (base : Heap) (C : Addr) (k : Nat) (sp : Sp) : Prop where
  me : Me P w K mg base C "__str__" k ["self"] sp
  hf : PySem.W.findIn K (.ref C) "__format__" = some (some (.builtin "object.__format__"))
  hm : PySem.W.mroIn K C (.type "object") = some true
def tFmtO (C : Addr) (sp : Sp) (E : XK) (te : TE) : TE := fun σ H Q => te σ H fun x H1 => ∃ a dx fs, x = .ref a ∧ H1 a = some (.ins C dx fs) ∧ sp [.ref a] H1 (fun z H' => ∃ y, z = .str y ∧ Q (.str y) H') E
theorem pe_fmtO {X : Cx} {C : Addr} {k j : Nat} {sp : Sp} {E : XK} {e : Expr} {te : TE} {pos : Pos} (B : MeF X.prog X.w X.K X.mg X.base C k sp) (hr : Room (j + 1) X.A) (hx : Passes (L2.CX X.prog X.w) X E) (he : PE X e te) (hk : k ≤ j := by decide) : PE X (.FormattedValue e (-1) none pos) (tFmtO C sp E te) := by
  obtain ⟨f, fd, h1, h2, G, b⟩ := B.me.ex
  refine ⟨fun pins s σ H Q I h => ?_⟩
  refine wpAny_FormattedValue_plain (thn (he.run pins s σ H _ I h) fun v s1 hv => ?_)
  obtain ⟨x, H1, I1, r1, a, dx, fs, rfl, ea, q⟩ := hv
  cases (show v = Value.ref a from r1)
  obtain ⟨od, J⟩ := ins_inst I1.hok ea
  refine PySem.W.kfo_fieldS (by have := hr.units; show X.A.units + 1 < cLine; omega) I1.kIn J B.hf B.hm h1 h2 ?_
  have I2 := I1.tok (s1.toks + 1)
  refine wpAny_call (codeAny_mono (G.run X.A.in1 X.stack _ H1 ⟨[.ref a], []⟩ [.ref a] [.ref a] (fun z H' => ∃ y, z = .str y ∧ Q (.str y) H') E (hr.in1.mono hk) I2.env0.in1 (by have := b { s1 with toks := s1.toks + 1 } [.ref a] I2.kIn rfl; rw [List.append_nil] at this; exact this) (.cons (show RelV (.ref a) (.ref a) from rfl) .nil) q) fun r s' z => ?_)
  match r, z with
  | .error e, z => exact hx pins σ H1 _ e s' I2 z
  | .ok (.ret u), z =>
    obtain ⟨v', H', I', r', y, rfl, q'⟩ := I2.after z
    obtain ⟨t, rfl⟩ := (show ∃ t, u = Value.str y t from r')
    exact ⟨.str y, H', I', ⟨t, rfl⟩, q'⟩
/-- str(x), x a text or a number -/
def rStrV (K : PySem.W.Frag) : List V → Hp → VK → Prop := fun xs H Q => rStrB K xs H Q ∨ ∃ a, xs = [.str a] ∧ Q (.str a) H
theorem KX.strV {X : Cx} {K : PySem.W.Frag} (hK : X.K = K) (hc : X.calm = true) : CallR X (.type "str") (rStrV K) := by
  subst hK
  intro pins s σ H xs us Q I r h
  rcases h with h | ⟨a, rfl, q⟩
  · exact callStrB hc pins s σ H xs us Q I r h
  · obtain ⟨u, rfl, t, rfl⟩ := vals1 r
    exact PySem.P.str_of_str ⟨.str a, H, I, ⟨t, rfl⟩, q⟩
theorem s_strVI {K : PySem.W.Frag} {i : Int} {H : Hp} {Q : VK} (hk : PySem.W.nsIn K cStatics "sys.int_max_str_digits" = some none) (hi : i.natAbs < 10 ^ 4300) (h : Q (.str (strOf i)) H) : rStrV K [.int i] H Q := .inl ⟨i, rfl, hk, hi, h⟩
theorem s_strVT {K : PySem.W.Frag} {z : Str} {H : Hp} {Q : VK} (h : Q (.str z) H) : rStrV K [.str z] H Q := .inr ⟨z, rfl, h⟩
end L3
end
section
local macro_rules | `(tactic| tm_at "s1") => `(tactic| first
  | with_reducible first
    | refine L3.s_seq ?_ | refine L3.s_asg ?_ | refine L3.s_op ?_ | refine L3.s_c ?_ | refine L3.s_cb ?_ | refine L3.s_cons ?_ | refine L3.s_nil ?_ | refine L3.s_test ?_ | refine L3.s_bl ?_
    | refine L3.s_I0 ?_ | refine L3.s_and ?_ | refine L3.s_or ?_ | refine L3.s_not ?_ | refine L3.s_if ?_ | refine L3.s_next ?_ | refine L3.s_ret ?_ | refine L3.s_retN ?_ | refine L3.s_asgS ?_ | refine L3.s_drop ?_
    | refine L3.s_un ?_ | refine L3.s_U ?_ | refine L3.s_int ?_ | refine L3.s_intB ?_ | refine L3.s_abs ?_ | refine L3.s_andV ?_ | refine L3.s_orV ?_ | refine L3.s_notV ?_ | refine L3.s_ifE ?_ | refine L3.s_call ?_ | refine L3.s_lst ?_ | refine L3.s_tup ?_ | refine L3.s_tB ?_
    | refine L3.s_addI ?_ | refine L3.s_inS ?_ | refine L3.s_ninS ?_ | refine L3.s_slice ?_ | refine L3.s_part ?_ | refine L3.s_partI ?_ | refine L3.s_nopart ?_ | refine L3.s_cI ?_ | refine L3.s_cB ?_ | refine L3.s_chain ?_ | refine L3.s_bm ?_ | refine L3.s_lcS ?_ | refine L3.s_lcR ?_ | refine L3.s_strE ?_
    | refine L2.iteT ?_ | refine L2.iteF ?_ | refine L3.iteNF ?_ | refine L3.iteNT ?_
    | refine L3.s_eqI ?_ | refine L3.s_neI ?_ | refine L3.s_eqS ?_ | refine L3.s_neS ?_
    | refine L3.s_pair ?_ | refine L3.s_pair2 ?_ | refine L3.s_fld ?_ | refine L3.s_make ?_ | refine L3.s_m1 ?_ | refine L3.s_isstr ?_
    | refine L3.s_xfV ?_ | refine L3.s_lstN ?_ | refine L3.s_callF ?_ | refine L3.s_lcL ?_ | refine L3.s_par3 ?_ | refine L3.s_trip ?_ | refine L3.s_asgT' ?_ | refine L3.s_gC ?_ | refine L3.s_gN ?_ | refine L3.s_fldG ?_ | refine L3.s_raise1 ?_ | refine L3.s_raise2 ?_ | refine L3.s_star ?_ | refine L3.s_mkCR ?_ | refine L3.s_lcZ ?_ | refine L3.s_forL ?_ | refine L3.s_forT ?_ | refine L3.s_gNm ?_ | refine L3.s_forE ?_ | refine L3.s_stC ?_ | refine L3.s_cmC ?_ | refine L3.s_forR1 ?_ | refine L3.s_lcTp ?_ | refine L3.s_forZ ?_ | refine L3.s_orT ?_ | refine L3.s_mt ?_ | refine L3.s_revT ?_ | refine L3.s_revL ?_ | refine L3.s_slOwn ?_ | refine L3.s_sl3 ?_ | refine L3.s_lcO ?_ | refine L3.s_stR ?_
    | refine L3.s_isN ?_ | refine L3.s_isB ?_ | refine L3.s_nisN ?_ | refine L3.s_nisB ?_
  | ((with_reducible refine' L3.s_var ?e ?_); (case e => rfl))
  | ((with_reducible refine' L3.s_aug ?e ?_); (case e => rfl))
  | ((with_reducible refine' L3.s_pow ?c ?_); (case c => exact ⟨by decide, by decide, by decide⟩)))
local macro_rules | `(tactic| tm_at "s") => `(tactic| repeat tm_at "s1")
namespace K49
open PySem PySem.NumText PySem.Spec PyProof.Rows L2 L3 LamX RZ ClX
abbrev s_is_figures : Stmt := topS 18
abbrev names_is_figures : List Str := ["word", "figures", "sign"]
theorem sc_is_figures : FnScope ["word", "figures", "sign"] ["word"] (defScope s_is_figures) := ⟨rfl, rfl, rfl, by decide +kernel, rfl, by decide +kernel, by decide +kernel⟩
abbrev s_number_of : Stmt := topS 17
theorem sc_number_of : FnScope ["word", "least", "most", "found"] ["word", "least", "most"] (defScope s_number_of) := ⟨rfl, rfl, rfl, by decide +kernel, rfl, by decide +kernel, by decide +kernel⟩
abbrev s_word_at : Stmt := topS 34
theorem sc_word_at : FnScope ["words", "at"] ["words", "at"] (defScope s_word_at) := ⟨rfl, rfl, rfl, by decide +kernel, rfl, by decide +kernel, by decide +kernel⟩
abbrev s_need_numbers : Stmt := topS 35
theorem sc_need_numbers : FnScope ["words", "at", "bounds", "spot", "least", "most"] ["words", "at", "bounds"] (defScope s_need_numbers) := ⟨rfl, rfl, rfl, by decide +kernel, rfl, by decide +kernel, by decide +kernel⟩
abbrev s_bounds_of : Stmt := topS 36
theorem sc_bounds_of : FnScope ["word"] ["word"] (defScope s_bounds_of) := ⟨rfl, rfl, rfl, by decide +kernel, rfl, by decide +kernel, by decide +kernel⟩
abbrev s_rule_end : Stmt := topS 37
theorem sc_rule_end : FnScope ["words", "begin", "at", "many", "opened", "is_wanted", "word", "bounds"] ["words", "begin"] (defScope s_rule_end) := ⟨rfl, rfl, rfl, by decide +kernel, rfl, by decide +kernel, by decide +kernel⟩
abbrev s_rule_told : Stmt := topS 38
theorem sc_rule_told : FnScope ["words", "at", "one", "sign", "other"] ["words", "at"] (defScope s_rule_told) := ⟨rfl, rfl, rfl, by decide +kernel, rfl, by decide +kernel, by decide +kernel⟩
abbrev s_Rule_read : Stmt := inClass (topS 24) 0
theorem sc_Rule_read : FnScope ["text", "words", "at"] ["text"] (defScope s_Rule_read) := ⟨rfl, rfl, rfl, by decide +kernel, rfl, by decide +kernel, by decide +kernel⟩
abbrev s_Fixed___str__ : Stmt := inClass (topS 27) 8
theorem sc_Fixed___str__ : FnScope ["self"] ["self"] (defScope s_Fixed___str__) := ⟨rfl, rfl, rfl, by decide +kernel, rfl, by decide +kernel, by decide +kernel⟩
abbrev s_Divided___str__ : Stmt := inClass (topS 28) 9
theorem sc_Divided___str__ : FnScope ["self"] ["self"] (defScope s_Divided___str__) := ⟨rfl, rfl, rfl, by decide +kernel, rfl, by decide +kernel, by decide +kernel⟩
abbrev s_Lesser___str__ : Stmt := inClass (topS 29) 8
theorem sc_Lesser___str__ : FnScope ["self"] ["self"] (defScope s_Lesser___str__) := ⟨rfl, rfl, rfl, by decide +kernel, rfl, by decide +kernel, by decide +kernel⟩
abbrev s_Greater___str__ : Stmt := inClass (topS 30) 8
theorem sc_Greater___str__ : FnScope ["self"] ["self"] (defScope s_Greater___str__) := ⟨rfl, rfl, rfl, by decide +kernel, rfl, by decide +kernel, by decide +kernel⟩
/-- what the top has left besides -/
structure TxtR (K : PySem.W.Frag) (mg : Str → Option Value) (C : RA) (CR0 CY CS CR CM CL CW : Addr) : Prop extends Txt K mg C CR0 CY CS CR CM CL where
  w : Er K mg "BadText" CW CL ["line", "word"]
  digits : PySem.W.nsIn K cStatics "sys.int_max_str_digits" = some none
  g_MOST_FIGURES : ∃ u, mg "MOST_FIGURES" = some u ∧ RelV (.int 4000) u
section
variable {P : Program} {w : World} {K : PySem.W.Frag} {mg : Str → Option Value} {base : Heap} {C : RA} {CR0 CY CS CR CM CL CW : Addr}
theorem TxtR.g_BadText (T : TxtR K mg C CR0 CY CS CR CM CL CW) : ∃ u, mg "BadText" = some u ∧ RelV (.ref CW) u := T.w.g
theorem ok_is_figures {f : Addr} {fd : FuncData} (F : Fun K "is_figures" "is_figures" s_is_figures f fd) (T : TxtR K mg C CR0 CY CS CR CM CL CW) : FnOk P w K mg base CX0 1 f fd ["word"] spFig := by
  refine funO F sc_is_figures (fun vs H Q E h => ?_) (fun cd A fr s H vs Q E hr h => ?_)
  · obtain ⟨x, rfl, _⟩ := h; rfl
  · obtain ⟨z, rfl, hz, k⟩ := h
    refine ⟨_, (pss_cons (ps_if (pt_not (pt_val (pe_callB (KX.callIsi (K := K)) (by rfl) T.b_isinstance (by decide +kernel) (pa_cons (pv 0) (pa_cons (pe_bltn (v := .ty "str") (u := .type "str") (by rfl) T.b_str (by decide +kernel) rfl) pa_nil))))) (pss_one (ps_ret pe_bl)) pss_nil)
      (Evl.pss_cut (ps_set (i := 1) sc_is_figures.nd rfl (Or.inl rfl) (pe_ifExp (pt_cmpR (KX.eqU (K := K) rfl hr.units) (pe_slice (KX.slU (K := K)) (pv 0) po_none (po_some pe_int)) pe_str (nomark _)) (pe_slice (KX.slU (K := K)) (pv 0) (po_some pe_int) po_none) (pv 0)))
      (pss_cons (ps_if (PW.pt (pw_or (pt_not (pt_chain op_le op_le pe_int (pe_callB (KX.callLen (K := K)) (by rfl) T.b_len (by decide +kernel) (pa_cons (pv 1) pa_nil)) (C8.pe_gc (by rfl) T.g_MOST_FIGURES))) (pw_or1 (pt_not (pt_val (pe_callB (KX.callAll (K := K) rfl rfl) (by rfl) T.b_all (by decide +kernel) (pa_cons (pe_lc (own := [("sign", 2)]) (g := gName 2) (tt := tYes) (by rfl) sc_is_figures.nd (pi_str (pv 1)) (blkOk_by (own := [("sign", 2)]) (N := names_is_figures) (sc := defScope s_is_figures) (by decide +kernel)) (fun _ _ _ _ _ => pg_name (i := 2) sc_is_figures.nd rfl (Or.inl rfl)) (fun _ _ _ _ _ => pts_nil) (fun _ _ _ _ _ => (pe_cmpR (KX.opIn (K := K)) (pv 2) pe_str (by rfl)))) pa_nil))))))) (pss_one (ps_ret pe_bl)) pss_nil)
      (pss_one (ps_ret (pe_or (pe_cmpR (KX.eqU (K := K) rfl hr.units) (pv 0) pe_str (nomark _)) (pe_one (pe_cmpR (KX.neU (K := K) rfl hr.units) (pe_ix (KX.ixU (K := K)) (pv 1) pe_int (fun _ _ => rfl)) pe_str (nomark _))))))))), ?_⟩
    tm_at "s"
    have hzz : z.length ≤ sizeLine := Nat.le_of_lt (sz_of hz)
    refine s_isiT (ty_str z) (b := true) (kit_ty (by decide +kernel)) ?_
    tm_at "s"
    refine s_cut (M := fun σ' H' => σ' = [some (.str z), some (.str (figsOf z)), none] ∧ H' = H) ?_ ?_
    · tm_at "s"
      refine s_slS hzz ?_
      tm_at "s"
      refine iteB (fun h1 => ?_) (fun h1 => ?_)
      · tm_at "s"
        refine s_slS hzz ?_
        refine ⟨?_, rfl⟩
        unfold figsOf
        rw [if_pos h1]
        rfl
      · tm_at "s"
        refine ⟨?_, rfl⟩
        unfold figsOf
        rw [h1, if_neg (by decide)]
        rfl
    · rintro σ' H' ⟨rfl, rfl⟩
      have hf := figs_len z
      have fin : ∀ b : Bool, figB z = b → ∀ H1, Ex H' H1 → Q (.bl b) H1 := fun b e => by rw [← e]; exact k
      tm_at "s"
      refine s_lenS (Nat.le_trans hf hzz) ?_
      tm_at "s"
      have no : (decide (1 ≤ ((figsOf z).length : Int)) && decide (((figsOf z).length : Int) ≤ 4000)) = false → Q (.bl false) H' := fun e => by
        refine fin false ?_ H' (Ex.refl H')
        unfold figB
        rw [e, Bool.false_and, Bool.false_and]
      refine iteB (fun h1 => ?_) (fun h1 => ?_)
      · tm_at "s"
        refine iteB (fun h2 => ?_) (fun h2 => ?_)
        · tm_at "s"
          refine no ?_
          have : decide (((figsOf z).length : Int) ≤ 4000) = false := by simpa using h2
          rw [this, Bool.and_false]
        · have h3 : decide (((figsOf z).length : Int) ≤ 4000) = true := by simpa using h2
          tm_at "s"
          refine lcStr (fun _ => true) (fun c => .bl (isDig c)) (Nat.lt_of_le_of_lt hf (sz_of hz)) (fun _ => rfl) (fun c H' R h => h) (fun c H' R _ h => ?_) fun q H2 hq e2 hl2 => ?_
          · tm_at "s"
            exact h
          · rw [filt_true, map_bl] at hl2
            tm_at "s"
            refine s_all hl2 ?_
            rw [all_map]
            tm_at "s"
            refine iteB (fun h4 => ?_) (fun h4 => ?_)
            · tm_at "s"
              refine fin false ?_ H2 e2
              unfold figB
              have : (figsOf z).cps.toList.all isDig = false := by simpa using h4
              rw [this, Bool.and_false, Bool.false_and]
            · have h5 : (figsOf z).cps.toList.all isDig = true := by simpa using h4
              tm_at "s"
              refine iteB (fun h6 => ?_) (fun h6 => ?_)
              · tm_at "s"
                refine fin true ?_ H2 e2
                unfold figB
                rw [h1, h3, h5, h6]
                rfl
              · tm_at "s"
                have hpos : 0 < (figsOf z).cps.toList.length := by
                  have := of_decide_eq_true h1
                  have e : (figsOf z).length = (figsOf z).cps.toList.length := Array.length_toList.symm
                  omega
                obtain ⟨c, r, hcr⟩ : ∃ c r, (figsOf z).cps.toList = c :: r := by
                  cases hq : (figsOf z).cps.toList with
                  | nil => rw [hq] at hpos; exact absurd hpos (by decide)
                  | cons c r => exact ⟨c, r, rfl⟩
                refine s_iS (c := c) (Nat.le_trans hf hzz) (by rw [hcr, atI_int (by decide) (by show (0 : Int) < ((r.length + 1 : Nat) : Int); omega)]; rfl) ?_
                tm_at "s"
                refine fin _ ?_ H2 e2
                unfold figB
                rw [h1, h3, h5, h6, hcr]
                have : decide ((⟨#[c]⟩ : Str) = "0") = decide ((c :: r).head? = some 48) := by
                  by_cases hc : c = 48
                  · subst hc; rfl
                  · rw [decide_eq_false, decide_eq_false]
                    · intro z; exact hc (Option.some.inj z)
                    · intro z
                      have z2 := congrArg (fun s : Str => s.cps.toList) z
                      have z3 : [c] = [48] := z2
                      exact hc (List.cons.inj z3).1
                rw [this]
                rfl
      · tm_at "s"
        refine no ?_
        rw [h1, Bool.false_and]
theorem ok_number_of {f : Addr} {fd : FuncData} (F : Fun K "number_of" "number_of" s_number_of f fd) (T : TxtR K mg C CR0 CY CS CR CM CL CW) (c_is_figures : FnO P w K mg base CX0 1 "is_figures" ["word"] spFig) : FnOk P w K mg base CX0 2 f fd ["word", "least", "most"] spNum := by
  refine funO F sc_number_of (fun vs H Q E h => ?_) (fun cd A fr s H vs Q E hr h => ?_)
  · obtain ⟨z, a, b, rfl, _⟩ := h; rfl
  · obtain ⟨z, a, b, rfl, hz, k⟩ := h
    refine ⟨_, (pss_cons (ps_if (pt_not (pt_val (pe_o c_is_figures hr pass0 (pa_cons (pv 0) pa_nil)))) (pss_one (ps_ret pe_non)) pss_nil)
      (pss_cons (ps_set (i := 3) sc_number_of.nd rfl (Or.inl rfl) (pe_callTy (KX.callInt (K := K)) (by rfl) T.b_int (by decide +kernel) (pa_cons (pv 0) pa_nil)))
      (pss_one (ps_ret (pe_ifExp (pt_chain op_le op_le (pv 1) (pv 3) (pv 2)) (pv 3) pe_non))))), ?_⟩
    tm_at "s"
    refine ⟨z, rfl, hz, fun H1 e1 => ?_⟩
    tm_at "s"
    refine iteB (fun hf => ?_) (fun hf => ?_)
    · have hf : figB z = false := by simpa using hf
      tm_at "s"
      have := k H1 e1
      rw [if_neg (fun q => by rw [hf] at q; exact Bool.false_ne_true q.1)] at this
      exact this
    · have hf : figB z = true := by simpa using hf
      obtain ⟨f1, f2, f3⟩ := fig_parts hf
      tm_at "s"
      refine s_cF f1 f2 f3 (Nat.le_of_lt (sz_of hz)) T.digits ?_
      have kk := k H1 e1
      try dsimp only
      tm_at "s"
      refine iteD (fun h1 => ?_) (fun h1 => ?_)
      · tm_at "s"
        refine iteD (fun h2 => ?_) (fun h2 => ?_)
        · tm_at "s"
          rw [if_pos ⟨hf, h1, h2⟩] at kk
          exact kk
        · tm_at "s"
          rw [if_neg (fun q => h2 q.2.2)] at kk
          exact kk
      · tm_at "s"
        rw [if_neg (fun q => h1 q.2.1)] at kk
        exact kk
theorem int_w {H : Hp} {Q : VK} {n : Int} (h : n.natAbs < 10 ^ 4000) (T : TxtR K mg C CR0 CY CS CR CM CL CW) (q : Q (.int n) H) : rIntU K [.str (strOf n)] H Q := by
  obtain ⟨a, b, c⟩ := fig_parts (figB_strOf h)
  refine s_cF a b c (Nat.le_trans (pg_strOf (k := 4000) (by decide) h).1 (by decide)) T.digits ?_
  rw [val_strOf]; exact q
def spWordAt : Sp := fun vs H Q _ => ∃ l ws, ∃ i : Nat, vs = [.ref l, .int ((i : Nat) : Int)] ∧ H l = some (.lst ((ws : List Str).map V.str)) ∧ Q (.str (wAt ws i)) H
theorem ok_word_at {f : Addr} {fd : FuncData} (F : Fun K "word_at" "word_at" s_word_at f fd) (T : TxtR K mg C CR0 CY CS CR CM CL CW) : FnOk P w K mg base CX0 1 f fd ["words", "at"] spWordAt := by
  refine funO F sc_word_at (fun vs H Q E h => ?_) (fun cd A fr s H vs Q E hr h => ?_)
  · obtain ⟨l, ws, i, rfl, _⟩ := h; rfl
  · obtain ⟨l, ws, i, rfl, hl, k⟩ := h
    refine ⟨_, (pss_one (ps_ret (pe_ifExp (pt_cmpR op_lt (pv 1) (pe_callB (KX.callLen (K := K)) (by rfl) T.b_len (by decide +kernel) (pa_cons (pv 0) pa_nil)) (nomark _)) (pe_ix (KX.ixU (K := K)) (pv 0) (pv 1) (fun _ _ => rfl)) pe_str))), ?_⟩
    tm_at "s"
    refine s_lenL hl ?_
    tm_at "s"
    rw [List.length_map]
    refine iteD (fun h => ?_) (fun h => ?_)
    · have hi : i < ws.length := by omega
      tm_at "s"
      refine s_iL (v := .str ws[i]) hl (L3.atI_nat (by rw [List.getElem?_map, List.getElem?_eq_getElem hi]; rfl)) ?_
      rw [wAt_get hi] at k
      exact k
    · tm_at "s"
      rw [wAt_out (by omega)] at k
      exact k
/-- the bounds -/
def BdAll (H : Hp) : List (Int × Int) → List V → Prop
  | [], [] => True
  | b :: bs, u :: us => (∃ p, u = .ref p ∧ H p = some (.tup [.int b.1, .int b.2])) ∧ BdAll H bs us
  | _, _ => False
theorem BdAll.ex {H H' : Hp} (e : Ex H H') : ∀ {bs : List (Int × Int)} {us : List V}, BdAll H bs us → BdAll H' bs us
  | [], [], _ => trivial
  | _ :: _, _ :: _, ⟨⟨p, a, b⟩, c⟩ => ⟨⟨p, a, e _ _ b⟩, BdAll.ex e c⟩
  | [], _ :: _, h => h.elim
  | _ :: _, [], h => h.elim
theorem BdAll.len {H : Hp} : ∀ {bs : List (Int × Int)} {us : List V}, BdAll H bs us → us.length = bs.length
  | [], [], _ => rfl
  | _ :: _, _ :: _, ⟨_, c⟩ => by rw [List.length_cons, List.length_cons, BdAll.len c]
  | [], _ :: _, h => h.elim
  | _ :: _, [], h => h.elim
theorem BdAll.get {H : Hp} : ∀ {bs : List (Int × Int)} {us : List V} {i : Nat} {u : V}, BdAll H bs us → us[i]? = some u → ∃ b, bs[i]? = some b ∧ ∃ p, u = .ref p ∧ H p = some (.tup [.int b.1, .int b.2])
  | b :: _, _ :: _, 0, u, ⟨h, _⟩, e => ⟨b, rfl, by simp at e; rw [← e]; exact h⟩
  | _ :: _, _ :: _, i + 1, u, ⟨_, c⟩, e => by
    obtain ⟨b, h1, h2⟩ := BdAll.get c (by simpa using e)
    exact ⟨b, by simpa using h1, h2⟩
  | [], [], _, _, _, e => by simp at e
  | [], _ :: _, _, _, h, _ => h.elim
  | _ :: _, [], _, _, h, _ => h.elim
def spNums (CW : Addr) : Sp := fun vs H Q E => ∃ l ws, ∃ i : Nat, ∃ bl bs us, vs = [.ref l, .int ((i : Nat) : Int), .ref bl] ∧ H l = some (.lst ((ws : List Str).map V.str)) ∧ (∀ z ∈ ws, (z : Str).length ≤ 100000) ∧ H bl = some (.lst us) ∧ BdAll H bs us ∧ bs.length ≤ 10 ∧
  ((∃ j, numsE ws i bs = .ok j ∧ ∀ H', Ex H H' → Q (.int ((j : Nat) : Int)) H') ∨ (∃ j, numsE ws i bs = .error j ∧ Rz2 CW "line" "word" (.int 0) (.int ((j : Nat) : Int)) H E))
theorem wAt_len {ws : List Str} (h : ∀ z ∈ ws, (z : Str).length ≤ 100000) (i : Nat) : (wAt ws i).length ≤ 100000 := by
  by_cases hi : i < ws.length
  · rw [wAt_get hi]; exact h _ (List.getElem_mem hi)
  · rw [wAt_out (by omega)]; decide
theorem nums_drop {ws : List Str} {i k : Nat} {bs : List (Int × Int)} {b : Int × Int} (h : bs[k]? = some b) : numsE ws (i + k) (bs.drop k) = if numB (wAt ws (i + k)) b.1 b.2 = true then numsE ws (i + (k + 1)) (bs.drop (k + 1)) else .error (i + k) := by
  have hk := (List.getElem?_eq_some_iff.mp h)
  obtain ⟨hk, e⟩ := hk
  rw [List.drop_eq_getElem_cons hk, e]
  rfl
theorem ok_nums {f : Addr} {fd : FuncData} (F : Fun K "need_numbers" "need_numbers" s_need_numbers f fd) (T : TxtR K mg C CR0 CY CS CR CM CL CW) (c_word_at : FnO P w K mg base CX0 1 "word_at" ["words", "at"] spWordAt) (c_number_of : FnO P w K mg base CX0 2 "number_of" ["word", "least", "most"] spNum) (e_BadText : Er2 P w K mg base "BadText" CW "line" "word") :
    FnOk P w K mg base (L2.CX P w) 3 f fd ["words", "at", "bounds"] (spNums CW) := by
  refine funO F sc_need_numbers (fun vs H Q E h => ?_) (fun cd A fr s H vs Q E hr h => ?_)
  · obtain ⟨l, ws, i, bl, bs, us, rfl, _⟩ := h; rfl
  · obtain ⟨l, ws, i, bl, bs, us, rfl, hl, hz, hb, hbs, hn, hc⟩ := h
    refine ⟨_, (pss_cons (ps_for (passes_of rfl) rfl (pi_enum (by rfl) T.b_enumerate (pa_cons (pv 2) pa_nil)) (KX.tup (K := K) rfl rfl (pgs_cons (pg_name (i := 3) sc_need_numbers.nd rfl (Or.inl rfl)) (pgs_cons (KX.tup (K := K) rfl rfl (pgs_cons (pg_name (i := 4) sc_need_numbers.nd rfl (Or.inl rfl)) (pgs_cons (pg_name (i := 5) sc_need_numbers.nd rfl (Or.inl rfl)) pgs_nil))) pgs_nil))) (pss_one (ps_if (pt_cmpR opIs (pe_o c_number_of hr pass0 (pa_cons (pe_o c_word_at hr pass0 (pa_cons (pv 0) (pa_cons (pe_op opAdd (pv 1) (pv 3)) pa_nil))) (pa_cons (pv 4) (pa_cons (pv 5) pa_nil)))) pe_non (nomark _)) (pss_one (ps_raise2 e_BadText hr rfl (takes_of rfl rfl rfl rfl) (pa_cons pe_int (pa_cons (pe_op opAdd (pv 1) (pv 3)) pa_nil)))) pss_nil)))
      (pss_one (ps_ret (pe_op opAdd (pv 1) (pe_callB (KX.callLen (K := K)) (by rfl) T.b_len (by decide +kernel) (pa_cons (pv 2) pa_nil)))))), ?_⟩
    have hlen := hbs.len
    tm_at "s"
    refine ⟨bl, us, rfl, .inl (.inl hb), forEn (fun k σ H' => (∃ v3 v4 v5, σ = [some (.ref l), some (.int ((i : Nat) : Int)), some (.ref bl), v3, v4, v5]) ∧ Ex H H' ∧ numsE ws (i + k) (bs.drop k) = numsE ws i bs) ⟨⟨_, _, _, rfl⟩, Ex.refl _, rfl⟩ (fun k σ H' ⟨_, e, _⟩ => e _ _ hb) ?_ ?_⟩
    · rintro k x TT _ H1 hx ⟨⟨v3, v4, v5, rfl⟩, e1, hq⟩ hT H2 e2 _ h2
      obtain ⟨b, hb1, p, rfl, hp⟩ := (hbs.ex (e1.trans e2)).get hx
      have e12 := e1.trans e2
      refine s_gT h2 rfl ?_
      refine s_gC ?_
      refine ⟨_, _, rfl, ?_⟩
      refine s_gT hp rfl ?_
      refine s_gC (s_gC (s_gN ?_))
      refine s_gN ?_
      try dsimp only
      tm_at "s"
      have hik : (((i : Nat) : Int) + ((k : Nat) : Int)) = ((i + k : Nat) : Int) := by omega
      rw [hik]
      refine ⟨l, ws, i + k, rfl, e12 _ _ hl, ?_⟩
      try dsimp only
      tm_at "s"
      refine ⟨_, _, _, rfl, wAt_len hz _, fun H3 e3 => ?_⟩
      have hd := nums_drop (ws := ws) (i := i) hb1
      by_cases hnb : numB (wAt ws (i + k)) b.1 b.2 = true
      · rw [if_pos hnb] at hd
        have hnb' := hnb
        unfold numB at hnb'
        simp only [Bool.and_eq_true, decide_eq_true_eq] at hnb'
        rw [if_pos hnb']
        tm_at "s"
        refine iteD (fun z => nomatch z) (fun _ => ?_)
        tm_at "s"
        exact ⟨⟨_, _, _, rfl⟩, e12.trans e3, by rw [← hd, hq]⟩
      · rw [if_neg hnb] at hd
        have hnb' : ¬ (figB (wAt ws (i + k)) = true ∧ b.1 ≤ valOf (wAt ws (i + k)) ∧ valOf (wAt ws (i + k)) ≤ b.2) := fun z => hnb (by unfold numB; simp [z.1, z.2.1, z.2.2])
        rw [if_neg hnb']
        tm_at "s"
        refine iteD (fun _ => ?_) (fun z => absurd rfl z)
        tm_at "s"
        rw [← hq, hd] at hc
        rcases hc with ⟨j, hj, _⟩ | ⟨j, hj, rz⟩
        · cases hj
        · cases hj
          rw [hik]
          exact s_rz2 (rz.ex (e12.trans e3))
    · rintro _ H1 ⟨⟨v3, v4, v5, rfl⟩, e1, hq⟩
      tm_at "s"
      refine s_lenL (e1 _ _ hb) ?_
      rw [hlen, List.drop_length] at hq
      rw [← hq] at hc
      tm_at "s"
      rcases hc with ⟨j, hj, k⟩ | ⟨j, hj, rz⟩
      · cases hj
        rw [hlen]
        exact k H1 e1
      · cases hj
def spBounds : Sp := fun vs H Q _ => ∃ z, vs = [.str z] ∧ (bnds z = none → ∀ H', Ex H H' → Q .non H') ∧ (∀ bs, bnds z = some bs → ∀ l us H', Ex H H' → H' l = some (.lst us) → BdAll H' bs us → Q (.ref l) H')
theorem ok_bounds {f : Addr} {fd : FuncData} (F : Fun K "bounds_of" "bounds_of" s_bounds_of f fd) (T : TxtR K mg C CR0 CY CS CR CM CL CW) : FnOk P w K mg base CX0 1 f fd ["word"] spBounds := by
  refine funO F sc_bounds_of (fun vs H Q E h => ?_) (fun cd A fr s H vs Q E hr h => ?_)
  · obtain ⟨z, rfl, _⟩ := h; rfl
  · obtain ⟨z, rfl, k0, k1⟩ := h
    refine ⟨_, (pss_cons (ps_if (pt_cmpR (KX.eqU (K := K) rfl hr.units) (pv 0) pe_str (nomark _)) (pss_one (ps_ret (pe_lst (pa_cons (pe_tup (pa_cons pe_int (pa_cons (C8.pe_gc (by rfl) T.g_MOST_SIZE) pa_nil))) pa_nil)))) pss_nil)
      (pss_cons (ps_if (pt_cmpR (KX.eqU (K := K) rfl hr.units) (pv 0) pe_str (nomark _)) (pss_one (ps_ret (pe_lst (pa_cons (pe_tup (pa_cons pe_int (pa_cons (C8.pe_gc (by rfl) T.g_MOST_DIVISOR) pa_nil))) (pa_cons (pe_tup (pa_cons (pe_un un_neg (C8.pe_gc (by rfl) T.g_MOST_ADDED)) (pa_cons (C8.pe_gc (by rfl) T.g_MOST_ADDED) pa_nil))) (pa_cons (pe_tup (pa_cons pe_int (pa_cons (C8.pe_gc (by rfl) T.g_MOST_DIVISOR) pa_nil))) pa_nil)))))) pss_nil)
      (pss_one (ps_ret pe_non)))), ?_⟩
    tm_at "s"
    refine iteD (fun h1 => ?_) (fun h1 => ?_)
    · tm_at "s"
      refine s_new (Nat.le_of_lt (small1000 (by simp))) fun t1 H1 n1 e1 h1' => ?_
      tm_at "s"
      refine s_new (Nat.le_of_lt (small1000 (by simp))) fun t2 H2 n2 e2 h2' => ?_
      exact k1 [(1, 10 ^ 30)] (by unfold bnds; rw [if_pos h1]) t2 _ H2 (e1.trans e2) h2' ⟨⟨t1, rfl, e2 _ _ h1'⟩, trivial⟩
    tm_at "s"
    refine iteD (fun h2 => ?_) (fun h2 => ?_)
    · tm_at "s"
      refine s_new (Nat.le_of_lt (small1000 (by simp))) fun t1 H1 n1 e1 h1' => ?_
      tm_at "s"
      refine s_new (Nat.le_of_lt (small1000 (by simp))) fun t2 H2 n2 e2 h2' => ?_
      tm_at "s"
      refine s_new (Nat.le_of_lt (small1000 (by simp))) fun t3 H3 n3 e3 h3' => ?_
      tm_at "s"
      refine s_new (Nat.le_of_lt (small1000 (by simp))) fun t4 H4 n4 e4 h4' => ?_
      exact k1 [(0, 24), (-1000, 1000), (1, 24)] (by unfold bnds; rw [if_neg h1, if_pos h2]) t4 _ H4 (e1.trans (e2.trans (e3.trans e4))) h4' ⟨⟨t1, rfl, e4 _ _ (e3 _ _ (e2 _ _ h1'))⟩, ⟨t2, rfl, e4 _ _ (e3 _ _ h2')⟩, ⟨t3, rfl, e4 _ _ h3'⟩, trivial⟩
    · tm_at "s"
      exact k0 (by unfold bnds; rw [if_neg h1, if_neg h2]) _ (Ex.refl _)
def opI (op : List Bool) : List Int := op.reverse.map fun b => if b = true then 2 else 1
theorem opI_cons (b : Bool) (r : List Bool) : (opI (b :: r)).map V.int = (opI r).map V.int ++ [.int (if b = true then 2 else 1)] := by
  unfold opI
  rw [List.reverse_cons, List.map_append, List.map_append]; rfl
theorem opI_len (op : List Bool) : ((opI op).map V.int).length = op.length := by unfold opI; simp
theorem opI_set {b : Bool} {r : List Bool} {x : Int} : (((opI r).map V.int ++ [V.int x]).set ((opI r).map V.int).length (.int (if b = true then 2 else 1))) = (opI (b :: r)).map V.int := by
  rw [opI_cons, List.set_append_right _ _ (Nat.le_refl _), Nat.sub_self]; rfl
theorem ixN_m1 {α : Type} (xs : List α) (y : α) : ixN (xs ++ [y]).length (-1) = some xs.length := by
  unfold ixN
  rw [if_neg (by decide), if_pos (by simp; omega)]
  congr 1
  simp
  omega
theorem s_ninT {K : PySem.W.Frag} {H : Hp} {Q : VK} {x : V} {p : Addr} {xs : List V} (hs : SqT K H p xs) (hx : flatV x = true) (ha : xs.all flatV = true) (h : Q (.bl (!inV x xs)) H) : rNotInU K x (.ref p) H Q := .inr ⟨p, xs, rfl, .inr hs, hx, ha, h⟩
theorem s_gS {to ti : TE} {t : TSet} {v : V} {σ : L2.St} {H : Hp} {R : L2.St → Hp → Prop} (h : to σ H fun o H2 => ti σ H2 fun i H3 => t o i v H3 fun H4 => R σ H4) : gSub to ti t v σ H R := h
def EndI (ws : List Str) (l ol : Addr) (H0 : Hp) (g : Nat) (σ : L2.St) (H' : Hp) : Prop := ∃ i m op wt v6 v7, σ = [some (.ref l), some (.int 0), some (.int ((i : Nat) : Int)), some (.int ((m : Nat) : Int)), some (.ref ol), some (.bl wt), v6, v7] ∧
  mrun ws g i m op wt = ruleEnd ws ∧ i ≤ ws.length ∧ ws.length + 2 ≤ g + i ∧ op.length ≤ i ∧ H' ol = some (.lst ((opI op).map V.int)) ∧ Ex H0 H'
theorem exUpd {H H3 : Hp} {a : Addr} {o : HO} (n : H a = none) (e : Ex H H3) : Ex H (upd H3 a o) := fun b u h => by rw [upd_ne (ne_of_none h n)]; exact e _ _ h
def spRuleEnd (CW : Addr) : Sp := fun vs H Q E => ∃ l ws, vs = [.ref l, .int 0] ∧ H l = some (.lst ((ws : List Str).map V.str)) ∧ (∀ z ∈ ws, (z : Str).length ≤ 100000) ∧ ws.length ≤ 100000 ∧
  ((∃ j, ruleEnd ws = .ok j ∧ ∀ H', Ex H H' → Q (.int ((j : Nat) : Int)) H') ∨ (∃ j, ruleEnd ws = .error j ∧ Rz2 CW "line" "word" (.int 0) (.int ((j : Nat) : Int)) H E))
theorem inv_sgn (z : Str) : inV (.str z) [.str "&", .str "|"] = decide (z = "&" ∨ z = "|") := by
  by_cases h1 : z = "&"
  · subst h1; decide +kernel
  · by_cases h2 : z = "|"
    · subst h2; decide +kernel
    · rw [decide_eq_false (fun h => h.elim h1 h2)]
      unfold inV
      simp [eqV]
      exact ⟨fun q => h1 q.symm, fun q => h2 q.symm⟩
theorem ok_rule_end {f : Addr} {fd : FuncData} (F : Fun K "rule_end" "rule_end" s_rule_end f fd) (T : TxtR K mg C CR0 CY CS CR CM CL CW) (c_word_at : FnO P w K mg base CX0 1 "word_at" ["words", "at"] spWordAt) (c_bounds_of : FnO P w K mg base CX0 1 "bounds_of" ["word"] spBounds) (c_need_numbers : FnO P w K mg base (L2.CX P w) 3 "need_numbers" ["words", "at", "bounds"] (spNums CW)) (e_BadText : Er2 P w K mg base "BadText" CW "line" "word") :
    FnOk P w K mg base (L2.CX P w) 4 f fd ["words", "begin"] (spRuleEnd CW) := by
  refine funO F sc_rule_end (fun vs H Q E h => ?_) (fun cd A fr s H vs Q E hr h => ?_)
  · obtain ⟨l, ws, rfl, _⟩ := h; rfl
  · obtain ⟨l, ws, rfl, hl, hz, hn, hc⟩ := h
    refine ⟨_, (pss_cons (ps_asg (pe_tup (pa_cons (pv 1) (pa_cons pe_int (pa_cons (pe_lst pa_nil) (pa_cons pe_bl pa_nil))))) (KX.tup (K := K) rfl rfl (pgs_cons (pg_name (i := 2) sc_rule_end.nd rfl (Or.inl rfl)) (pgs_cons (pg_name (i := 3) sc_rule_end.nd rfl (Or.inl rfl)) (pgs_cons (pg_name (i := 4) sc_rule_end.nd rfl (Or.inl rfl)) (pgs_cons (pg_name (i := 5) sc_rule_end.nd rfl (Or.inl rfl)) pgs_nil))))))
      (pss_cons (ps_while (passes_of rfl) (PW.pt (pw_or (pt_val (pv 5)) (pw_or1 (pt_cmpR (KX.neU (K := K) rfl hr.units) (pv 4) (pe_lst pa_nil) (nomark _))))) (pss_cons (ps_set (i := 6) sc_rule_end.nd rfl (Or.inl rfl) (pe_o c_word_at hr pass0 (pa_cons (pv 0) (pa_cons (pv 2) pa_nil))))
      (pss_one (ps_if (PW.pt (pw_and (pt_val (pv 5)) (pw_and1 (pt_cmpR (KX.eqU (K := K) rfl hr.units) (pv 6) pe_str (nomark _))))) (pss_cons (ps_expr (pe_bm PySem.F.plainAttrs_list PySem.F.slot_list_append PySem.F.type_list_append mt_append (pv 4) (pa_cons pe_int pa_nil)))
      (pss_one (ps_aug (i := 2) sc_rule_end.nd rfl (Or.inl rfl) pe_int in_add))) (pss_one (ps_if (pt_val (pv 5)) (pss_cons (ps_set (i := 7) sc_rule_end.nd rfl (Or.inl rfl) (pe_o c_bounds_of hr pass0 (pa_cons (pv 6) pa_nil)))
      (pss_cons (ps_if (PW.pt (pw_or (pt_cmpR opIs (pv 7) pe_non (nomark _)) (pw_or1 (pt_cmpR (KX.eqU (K := K) rfl hr.units) (pv 3) (C8.pe_gc (by rfl) T.g_MOST_PARTS) (nomark _))))) (pss_one (ps_raise2 e_BadText hr rfl (takes_of rfl rfl rfl rfl) (pa_cons pe_int (pa_cons (pv 2) pa_nil)))) pss_nil)
      (pss_one (ps_par3 (by rfl) sc_rule_end.nd (i := 2) (j := 3) (l := 5) rfl rfl rfl (by decide) (by decide) (by decide) rfl rfl rfl (pa_cons (pe_o c_need_numbers hr (passT (takes_of rfl rfl rfl rfl) (fun _ _ _ _ h => h)) (pa_cons (pv 0) (pa_cons (pe_op opAdd (pv 2) pe_int) (pa_cons (pv 7) pa_nil)))) (pa_cons (pe_op opAdd (pv 3) pe_int) (pa_cons pe_bl pa_nil))) (by rfl))))) (pss_one (ps_if (pt_cmpR (KX.eqU (K := K) rfl hr.units) (pe_ix (KX.ixU (K := K)) (pv 4) (pe_un un_neg pe_int) (fun _ _ => rfl)) pe_int (nomark _)) (pss_cons (ps_if (pt_cmpR (KX.opNotIn (K := K)) (pv 6) (pe_tup (pa_cons pe_str (pa_cons pe_str pa_nil))) (by rfl)) (pss_one (ps_raise2 e_BadText hr rfl (takes_of rfl rfl rfl rfl) (pa_cons pe_int (pa_cons (pv 2) pa_nil)))) pss_nil)
      (pss_one (ps_asg (pe_tup (pa_cons (pe_op opAdd (pv 2) pe_int) (pa_cons pe_int (pa_cons pe_bl pa_nil)))) (KX.tup (K := K) rfl rfl (pgs_cons (pg_name (i := 2) sc_rule_end.nd rfl (Or.inl rfl)) (pgs_cons (pg_sub (pv 4) (pe_un un_neg pe_int) set_list) (pgs_cons (pg_name (i := 5) sc_rule_end.nd rfl (Or.inl rfl)) pgs_nil))))))) (pss_cons (ps_if (pt_cmpR (KX.neU (K := K) rfl hr.units) (pv 6) pe_str (nomark _)) (pss_one (ps_raise2 e_BadText hr rfl (takes_of rfl rfl rfl rfl) (pa_cons pe_int (pa_cons (pv 2) pa_nil)))) pss_nil)
      (pss_cons (ps_expr (pe_bm0 PySem.F.plainAttrs_list PySem.F.slot_list_pop PySem.F.type_list_pop mt_pop (pv 4)))
      (pss_one (ps_aug (i := 2) sc_rule_end.nd rfl (Or.inl rfl) pe_int in_add))))))))))))
      (pss_one (ps_ret (pv 2))))), ?_⟩
    tm_at "s"
    refine s_new (Nat.le_of_lt (small1000 (by simp))) fun ol H1 no eo ho => ?_
    have hlo : l ≠ ol := ne_of_none hl no
    tm_at "s"
    refine s_new (Nat.le_of_lt (small1000 (by simp))) fun tp H2 nt et ht => ?_
    refine s_gT ht rfl (s_gC (s_gC (s_gC (s_gC (s_gN ?_)))))
    try dsimp only
    tm_at "s"
    have start : EndI ws l ol H (ws.length + 2) [some (.ref l), some (.int 0), some (.int 0), some (.int 0), some (.ref ol), some (.bl true), none, none] H2 := ⟨0, 0, [], true, _, _, rfl, mrun_top, by omega, by omega, by simp, et _ _ ho, eo.trans et⟩
    refine ⟨EndI ws l ol H, ⟨_, start⟩, ?_⟩
    clear start
    rintro g _ H3 ⟨i, m, op, wt, v6, v7, rfl, hrun, hi, hg, hop, hol, hk⟩
    have hl3 := hk _ _ hl
    have rzk : ∀ {e : Nat} {Hx : Hp}, ruleEnd ws = .error e → Ex H Hx → Rz2 CW "line" "word" (.int 0) (.int ((e : Nat) : Int)) Hx E := fun {e Hx} he hx => by
      rcases hc with ⟨j, hj, _⟩ | ⟨j, hj, rz⟩
      · rw [hj] at he; cases he
      · rw [hj] at he; cases he; exact rz.ex hx
    obtain ⟨g, rfl⟩ : ∃ g', g = g' + 1 := ⟨g - 1, by omega⟩
    cases wt with
    | true =>
      rw [show mrun ws (g + 1) i m op true = (if wAt ws i = "(" then mrun ws g (i + 1) m (false :: op) true
        else match bnds (wAt ws i) with
          | none => .error i
          | some b => if m = 6 then .error i else
            match numsE ws (i + 1) b with
            | .error e => .error e
            | .ok j => mrun ws g j (m + 1) op false) from rfl] at hrun
      tm_at "s"
      refine ⟨fun σ' H' => ∃ g', g' < g + 1 ∧ EndI ws l ol H g' σ' H', fun _ _ h => h, ?_⟩
      tm_at "s"
      refine ⟨l, ws, i, rfl, hl3, ?_⟩
      tm_at "s"
      refine iteD (fun hw => ?_) (fun hw => ?_)
      · have hil := wAt_lt (ws := ws) (i := i) (by rw [hw]; decide)
        rw [if_pos hw] at hrun
        tm_at "s"
        refine ⟨.inl ⟨rfl, _, .inl (.inl hol)⟩, ?_⟩
        tm_at "s"
        refine s_app hol (sz_of (by rw [opI_len]; omega)) ?_
        tm_at "s"
        refine ⟨_, _, rfl, rfl, ?_⟩
        refine ⟨g, by omega, i + 1, m, false :: op, true, _, _, rfl, hrun, by omega, by omega, by simp; omega, ?_, exUpd no hk⟩
        rw [upd_same, opI_cons]; rfl
      · rw [if_neg hw] at hrun
        tm_at "s"
        refine ⟨_, rfl, fun hb H4 e4 => ?_, fun bs hb bl us H4 e4 hbl hbs => ?_⟩
        · rw [hb] at hrun
          tm_at "s"
          refine iteD (fun _ => ?_) (fun z => absurd rfl z)
          tm_at "s"
          exact s_rz2 (rzk hrun.symm (hk.trans e4))
        · rw [hb] at hrun
          dsimp only at hrun
          have hne := bnds_ne hb
          have hil := wAt_lt (ws := ws) (i := i) hne.2.2
          tm_at "s"
          refine iteD (fun z => nomatch z) (fun _ => ?_)
          tm_at "s"
          refine iteD (fun hm => ?_) (fun hm => ?_)
          · rw [if_pos (show m = 6 by omega)] at hrun
            tm_at "s"
            exact s_rz2 (rzk hrun.symm (hk.trans e4))
          · rw [if_neg (show m ≠ 6 by omega)] at hrun
            tm_at "s"
            have eh : (((i : Nat) : Int) + 1) = ((i + 1 : Nat) : Int) := by omega
            rw [eh]
            refine ⟨l, ws, i + 1, bl, bs, us, rfl, e4 _ _ hl3, hz, hbl, hbs, by omega, ?_⟩
            cases hE : numsE ws (i + 1) bs with
            | error j =>
              rw [hE] at hrun
              exact .inr ⟨j, rfl, rzk hrun.symm (hk.trans e4)⟩
            | ok j =>
              rw [hE] at hrun
              dsimp only at hrun
              have hj := numsE_ok hE
              have hj2 := hj.2 hne.1
              refine .inl ⟨j, rfl, fun H5 e5 => ?_⟩
              tm_at "s"
              exact ⟨g, by omega, j, m + 1, op, false, _, _, rfl, hrun, hj2, by omega, by omega, e5 _ _ (e4 _ _ hol), hk.trans (e4.trans e5)⟩
    | false =>
      cases op with
      | nil =>
        tm_at "s"
        refine s_new (Nat.le_of_lt (small1000 (by simp))) fun q H4 n4 e4 h4 => ?_
        refine .inr (s_neD (.lst (.inl (.inl (e4 _ _ hol))) .nil) (.lst (.inl (.inl h4)) .nil) rfl rfl ?_)
        rw [SeqAt.eqv_refl _ rfl]
        tm_at "s"
        rcases hc with ⟨j, hj, k⟩ | ⟨j, hj, rz⟩
        · rw [hj] at hrun
          cases hrun
          exact k _ (hk.trans e4)
        · rw [hj] at hrun
          cases hrun
      | cons b r =>
        have hil : 1 ≤ i := by simp at hop; omega
        rw [opI_cons] at hol
        tm_at "s"
        refine s_new (Nat.le_of_lt (small1000 (by simp))) fun q H4 n4 e4 h4 => ?_
        have hol4 := e4 _ _ hol
        have hl4 := e4 _ _ hl3
        refine .inr (s_neD (d := .list ((opI (b :: r)).map PyData.int)) (by rw [← opI_cons] at hol4; exact .lst (.inl (.inl hol4)) (dpInts _)) (.lst (.inl (.inl h4)) .nil) (shInts _) rfl ?_)
        rw [show PyData.eqv (.list ((opI (b :: r)).map PyData.int)) (.list []) = false by unfold opI; rw [List.reverse_cons, List.map_append, List.map_append]; cases ((r.reverse.map fun b => if b = true then (2 : Int) else 1).map PyData.int) <;> rfl]
        tm_at "s"
        refine ⟨fun σ' H' => ∃ g', g' < g + 1 ∧ EndI ws l ol H g' σ' H', fun _ _ h => h, ?_⟩
        tm_at "s"
        refine ⟨l, ws, i, rfl, hl4, ?_⟩
        tm_at "s"
        refine s_iL hol4 (atI_snoc _ _) ?_
        tm_at "s"
        cases b with
        | false =>
          rw [show mrun ws (g + 1) i m (false :: r) false = (if wAt ws i = "&" ∨ wAt ws i = "|" then mrun ws g (i + 1) m (true :: r) true else .error i) from rfl] at hrun
          refine iteD (fun _ => ?_) (fun z => absurd rfl z)
          tm_at "s"
          refine s_new (Nat.le_of_lt (small1000 (by simp))) fun q2 H5 n5 e5 h5 => ?_
          refine s_ninT (.inl (.inl h5)) rfl rfl ?_
          rw [inv_sgn]
          tm_at "s"
          refine iteND (fun hs => ?_) (fun hs => ?_)
          · rw [if_neg hs] at hrun
            tm_at "s"
            exact s_rz2 (rzk hrun.symm (hk.trans (e4.trans e5)))
          · rw [if_pos hs] at hrun
            have hil2 := wAt_lt (ws := ws) (i := i) (by rcases hs with q | q <;> rw [q] <;> decide)
            tm_at "s"
            refine s_new (Nat.le_of_lt (small1000 (by simp))) fun q3 H6 n6 e6 h6 => ?_
            have hol6 := e6 _ _ (e5 _ _ hol4)
            refine s_gT h6 rfl (s_gC ?_)
            refine ⟨_, _, rfl, ?_⟩
            refine s_gS ?_
            tm_at "s"
            refine s_setL hol6 (ixN_m1 _ _) ?_
            refine s_gC (s_gN ?_)
            try dsimp only
            refine ⟨g, by omega, i + 1, m, true :: r, true, _, _, rfl, hrun, by omega, by omega, by simp at hop ⊢; omega, ?_, exUpd no (hk.trans (e4.trans (e5.trans e6)))⟩
            rw [upd_same]
            exact congrArg (fun z => some (HO.lst z)) (opI_set (b := true))
        | true =>
          rw [show mrun ws (g + 1) i m (true :: r) false = (if wAt ws i = ")" then mrun ws g (i + 1) m r false else .error i) from rfl] at hrun
          refine iteD (fun z => absurd z (by decide)) (fun _ => ?_)
          tm_at "s"
          refine iteND (fun hs => ?_) (fun hs => ?_)
          · rw [if_neg hs] at hrun
            tm_at "s"
            exact s_rz2 (rzk hrun.symm (hk.trans e4))
          · rw [if_pos hs] at hrun
            have hil2 := wAt_lt (ws := ws) (i := i) (by rw [hs]; decide)
            tm_at "s"
            refine ⟨.ref ol, rfl, .inl ⟨rfl, _, .inl (.inl hol4)⟩, ol, _, .int 2, rfl, rfl, hol4, by rw [List.length_append]; simp, ?_⟩
            tm_at "s"
            refine ⟨_, _, rfl, rfl, ?_⟩
            refine ⟨g, by omega, i + 1, m, r, false, _, _, rfl, hrun, by omega, by omega, by simp at hop ⊢; omega, ?_, exUpd no (hk.trans e4)⟩
            rw [upd_same, List.dropLast_concat]
def spTold (C : RA) (CM : Addr) (m : Nat) : Sp := fun vs H Q E => ∃ l ws, ∃ i : Nat, ∃ t r, vs = [.ref l, .int ((i : Nat) : Int)] ∧ H l = some (.lst ((ws : List Str).map V.str)) ∧ ws.drop i = toks t ++ r ∧ t.ok ∧ t.n ≤ 6 ∧ t.n ≤ m ∧
  ((t.md ≤ 5000 ∧ ∀ q ps p H', Ex H H' → RuAt C H' t q ps → H' p = some (.tup [.ref q, .int ((i + (toks t).length : Nat) : Int)]) → Q (.ref p) H') ∨ (5000 < t.md ∧ Rz2 CM "what" "most" (.str "residues") (.int 5000) H E))
theorem abs30 {n : Int} (h1 : -(10 ^ 30) ≤ n) (h2 : n ≤ 10 ^ 30) : n.natAbs < 10 ^ 4000 := by
  have : n.natAbs ≤ 10 ^ 30 := by omega
  exact Nat.lt_of_le_of_lt this (Nat.pow_lt_pow_right (by decide) (by decide))
theorem at_w {ws : List Str} {i : Nat} {x : Str} (h : ws[i]? = some x) : atI (ws.map V.str) ((i : Nat) : Int) = some (.str x) := L3.atI_nat (by rw [List.getElem?_map, h]; rfl)
theorem ok_told {f : Addr} {fd : FuncData} (F : Fun K "rule_told" "rule_told" s_rule_told f fd) (T : TxtR K mg C CR0 CY CS CR CM CL CW) (m : Nat) (c_rule_told : FnO P w K mg base (L2.CX P w) (m + 6) "rule_told" ["words", "at"] (spTold C CM m))
    (m_Fixed_1 : McO P w K mg base (L2.CX P w) 4 "Fixed" C.f ["self", "size"] (spFx C.f CS) []) (m_Divided_3 : McO P w K mg base (L2.CX P w) 3 "Divided" C.d ["self", "x", "y", "w"] (spDv C.d CR) [])
    (m_Lesser_2 : McO P w K mg base (L2.CX P w) 4 "Lesser" C.l ["self", "one", "other"] (spJn0 K C CR CM true) []) (m_Greater_2 : McO P w K mg base (L2.CX P w) 4 "Greater" C.g ["self", "one", "other"] (spJn0 K C CR CM false) []) :
    FnOk P w K mg base (L2.CX P w) (m + 7) f fd ["words", "at"] (spTold C CM (m + 1)) := by
  refine funO F sc_rule_told (fun vs H Q E h => ?_) (fun cd A fr s H vs Q E hr h => ?_)
  · obtain ⟨l, ws, i, t, r, rfl, _⟩ := h; rfl
  · obtain ⟨l, ws, i, t, r, rfl, hl, hd, hok, hn, hm, hc⟩ := h
    refine ⟨_, (pss_cons (ps_if (pt_cmpR (KX.eqU (K := K) rfl hr.units) (pe_ix (KX.ixU (K := K)) (pv 0) (pv 1) (fun _ _ => rfl)) pe_str (nomark _)) (pss_one (ps_ret (pe_tup (pa_cons (pe_mko (hk := by omega) m_Fixed_1 hr (passT (takes_of rfl rfl rfl rfl) (fun _ _ _ _ h => h)) (pa_cons (pe_callTy (KX.callInt (K := K)) (by rfl) T.b_int (by decide +kernel) (pa_cons (pe_ix (KX.ixU (K := K)) (pv 0) (pe_op opAdd (pv 1) pe_int) (fun _ _ => rfl)) pa_nil)) pa_nil)) (pa_cons (pe_op opAdd (pv 1) pe_int) pa_nil))))) pss_nil)
      (pss_cons (ps_if (pt_cmpR (KX.eqU (K := K) rfl hr.units) (pe_ix (KX.ixU (K := K)) (pv 0) (pv 1) (fun _ _ => rfl)) pe_str (nomark _)) (pss_one (ps_ret (pe_tup (pa_cons (pe_mko (hk := by omega) m_Divided_3 hr (passT (takes_of rfl rfl rfl rfl) (fun _ _ _ _ h => h)) (pa_cons (pe_callTy (KX.callInt (K := K)) (by rfl) T.b_int (by decide +kernel) (pa_cons (pe_ix (KX.ixU (K := K)) (pv 0) (pe_op opAdd (pv 1) pe_int) (fun _ _ => rfl)) pa_nil)) (pa_cons (pe_callTy (KX.callInt (K := K)) (by rfl) T.b_int (by decide +kernel) (pa_cons (pe_ix (KX.ixU (K := K)) (pv 0) (pe_op opAdd (pv 1) pe_int) (fun _ _ => rfl)) pa_nil)) (pa_cons (pe_callTy (KX.callInt (K := K)) (by rfl) T.b_int (by decide +kernel) (pa_cons (pe_ix (KX.ixU (K := K)) (pv 0) (pe_op opAdd (pv 1) pe_int) (fun _ _ => rfl)) pa_nil)) pa_nil)))) (pa_cons (pe_op opAdd (pv 1) pe_int) pa_nil))))) pss_nil)
      (pss_cons (ps_asg (pe_o (hk := by omega) c_rule_told hr (passT (takes_of rfl rfl rfl rfl) (fun _ _ _ _ h => h)) (pa_cons (pv 0) (pa_cons (pe_op opAdd (pv 1) pe_int) pa_nil))) (KX.tup (K := K) rfl rfl (pgs_cons (pg_name (i := 2) sc_rule_told.nd rfl (Or.inl rfl)) (pgs_cons (pg_name (i := 1) sc_rule_told.nd rfl (Or.inl rfl)) pgs_nil))))
      (pss_cons (ps_set (i := 3) sc_rule_told.nd rfl (Or.inl rfl) (pe_ix (KX.ixU (K := K)) (pv 0) (pv 1) (fun _ _ => rfl)))
      (pss_cons (ps_asg (pe_o (hk := by omega) c_rule_told hr (passT (takes_of rfl rfl rfl rfl) (fun _ _ _ _ h => h)) (pa_cons (pv 0) (pa_cons (pe_op opAdd (pv 1) pe_int) pa_nil))) (KX.tup (K := K) rfl rfl (pgs_cons (pg_name (i := 4) sc_rule_told.nd rfl (Or.inl rfl)) (pgs_cons (pg_name (i := 1) sc_rule_told.nd rfl (Or.inl rfl)) pgs_nil))))
      (pss_one (ps_ret (pe_tup (pa_cons (pe_ifExp (pt_cmpR (KX.eqU (K := K) rfl hr.units) (pv 3) pe_str (nomark _)) (pe_mko (hk := by omega) m_Lesser_2 hr (passT (takes_of rfl rfl rfl rfl) (fun _ _ _ _ h => h)) (pa_cons (pv 2) (pa_cons (pv 4) pa_nil))) (pe_mko (hk := by omega) m_Greater_2 hr (passT (takes_of rfl rfl rfl rfl) (fun _ _ _ _ h => h)) (pa_cons (pv 2) (pa_cons (pv 4) pa_nil)))) (pa_cons (pe_op opAdd (pv 1) pe_int) pa_nil)))))))))), ?_⟩
    have c1 : (((i : Nat) : Int) + 1) = ((i + 1 : Nat) : Int) := by omega
    have c2 : (((i : Nat) : Int) + 2) = ((i + 2 : Nat) : Int) := by omega
    have c3 : (((i : Nat) : Int) + 3) = ((i + 3 : Nat) : Int) := by omega
    have c4 : (((i : Nat) : Int) + 4) = ((i + 4 : Nat) : Int) := by omega
    match t, hd, hok, hn, hm, hc with
    | .fx s, hd, hok, _, _, hc =>
      obtain ⟨g1, q1⟩ := drop_get hd
      obtain ⟨g2, q2⟩ := drop_get q1
      rcases hc with ⟨_, k⟩ | ⟨h5, _⟩
      · have h1 : 1 ≤ s := hok.1
        tm_at "s"
        refine s_iL hl (at_w g1) ?_
        tm_at "s"
        refine iteD (fun _ => ?_) (fun z => absurd rfl z)
        tm_at "s"
        rw [c1]
        refine s_iL hl (at_w g2) ?_
        tm_at "s"
        refine int_w (abs30 (by omega) hok.2) T ?_
        tm_at "s"
        refine s_mkFx (dvs := []) hok fun q H1 hq e1 fx => ?_
        try dsimp only
        tm_at "s"
        rw [c2]
        refine s_new (Nat.le_of_lt (small1000 (by simp))) fun p H2 n2 e2 h2 => ?_
        exact k q [q] p H2 (e1.trans e2) ⟨rfl, fx.ex e2⟩ h2
      · exact absurd h5 (by show ¬ 5000 < 1; decide)
    | .dv x y z, hd, hok, _, _, hc =>
      obtain ⟨g1, q1⟩ := drop_get hd
      obtain ⟨g2, q2⟩ := drop_get q1
      obtain ⟨g3, q3⟩ := drop_get q2
      obtain ⟨g4, q4⟩ := drop_get q3
      obtain ⟨hx, hy, hz⟩ := id hok
      rcases hc with ⟨_, k⟩ | ⟨h5, _⟩
      · tm_at "s"
        refine s_iL hl (at_w g1) ?_
        tm_at "s"
        refine iteD (fun z => absurd z (by decide)) (fun _ => ?_)
        tm_at "s"
        refine s_iL hl (at_w g1) ?_
        tm_at "s"
        refine iteD (fun _ => ?_) (fun z => absurd rfl z)
        tm_at "s"
        rw [c1]
        refine s_iL hl (at_w g2) ?_
        tm_at "s"
        refine int_w (abs30 (by omega) (by omega)) T ?_
        tm_at "s"
        rw [c2]
        refine s_iL hl (at_w g3) ?_
        tm_at "s"
        refine int_w (abs30 (by omega) (by omega)) T ?_
        tm_at "s"
        rw [c3]
        refine s_iL hl (at_w g4) ?_
        tm_at "s"
        refine int_w (abs30 (by omega) (by omega)) T ?_
        tm_at "s"
        refine s_mkDv hok.1 hok.2.1 hok.2.2 fun q H1 hq e1 dv => ?_
        try dsimp only
        tm_at "s"
        rw [c4]
        refine s_new (Nat.le_of_lt (small1000 (by simp))) fun p H2 n2 e2 h2 => ?_
        exact k q [q] p H2 (e1.trans e2) ⟨rfl, dv.ex e2⟩ h2
      · have h5' : 5000 < z.toNat := h5
        omega
    | .jn lo a b, hd, hok, hn, hm, hc =>
      have hn2 : a.n + b.n ≤ 6 := hn
      have hm2 : a.n + b.n ≤ m + 1 := hm
      have na := a.n_pos
      have nb := b.n_pos
      have hd' : ws.drop i = ("(" : Str) :: (toks a ++ (sgnS lo :: (toks b ++ ((")" : Str) :: r)))) := by rw [hd, toks_jn]; simp
      obtain ⟨g1, q1⟩ := drop_get hd'
      have q2 := drop_app q1
      obtain ⟨g3, q3⟩ := drop_get q2
      have q4 := drop_app q3
      have rzA : 5000 < (RT.jn lo a b).md → Rz2 CM "what" "most" (.str "residues") (.int 5000) H E := fun h => by
        rcases hc with ⟨h1, _⟩ | ⟨_, rz⟩
        · omega
        · exact rz
      have mdl := RT.md_l hok
      have mdr := RT.md_r hok
      tm_at "s"
      refine s_iL hl (at_w g1) ?_
      tm_at "s"
      refine iteD (fun z => absurd z (by decide)) (fun _ => ?_)
      tm_at "s"
      refine s_iL hl (at_w g1) ?_
      tm_at "s"
      refine iteD (fun z => absurd z (by decide)) (fun _ => ?_)
      tm_at "s"
      rw [c1]
      refine ⟨l, ws, i + 1, a, _, rfl, hl, q1, hok.1, by omega, by omega, ?_⟩
      by_cases ha : a.md ≤ 5000
      · refine .inl ⟨ha, fun qa pa p1 H1 e1 ra h1 => ?_⟩
        refine s_gT h1 rfl (s_gC (s_gC (s_gN ?_)))
        try dsimp only
        tm_at "s"
        refine s_iL (e1 _ _ hl) (at_w g3) ?_
        tm_at "s"
        rw [show (((i + 1 + (toks a).length : Nat) : Int) + 1) = ((i + 1 + (toks a).length + 1 : Nat) : Int) by omega]
        refine ⟨l, ws, i + 1 + (toks a).length + 1, b, _, rfl, e1 _ _ hl, q3, hok.2, by omega, by omega, ?_⟩
        by_cases hb : b.md ≤ 5000
        · refine .inl ⟨hb, fun qb pb p2 H2 e2 rb h2 => ?_⟩
          refine s_gT h2 rfl (s_gC (s_gC (s_gN ?_)))
          try dsimp only
          have fa : a.fine := ⟨hok.1, by omega, ha⟩
          have fb : b.fine := ⟨hok.2, by omega, hb⟩
          have ra2 := ra.ex e2
          have jt : ∀ Q' : VK, ((RT.jn lo a b).md ≤ 5000 → Gjn C lo H2 Q' a b pa pb) → JnT K C CR CM "one" H2 (.ref qa) (.ref qb) (fun a b _ _ pa pb => Gjn C lo H2 Q' a b pa pb) E := fun Q' kk => by
            refine .inr ⟨a, pa, ⟨fa, qa, rfl, ra2⟩, .inr ⟨b, pb, ⟨fb, qb, rfl, rb⟩, .inr ⟨hn2, ?_⟩⟩⟩
            by_cases hj : (RT.jn lo a b).md ≤ 5000
            · exact .inr ⟨hj, fun _ _ _ _ _ _ => kk hj⟩
            · exact .inl ⟨Nat.lt_of_not_le hj, (rzA (Nat.lt_of_not_le hj)).ex (e1.trans e2)⟩
          have el : i + 1 + (toks a).length + 1 + (toks b).length + 1 = i + (toks (.jn lo a b)).length := by rw [toks_jn]; simp; omega
          have fin : (RT.jn lo a b).md ≤ 5000 → ∀ q H3, Ex H2 H3 → RuAt C H3 (.jn lo a b) q (pa ++ pb) → ∀ p H4, H3 p = none → Ex H3 H4 → H4 p = some (.tup [.ref q, .int ((i + 1 + (toks a).length + 1 + (toks b).length + 1 : Nat) : Int)]) → Q (.ref p) H4 := fun hj q H3 e3 ru p H4 n4 e4 h4 => by
            rcases hc with ⟨_, k⟩ | ⟨h5, _⟩
            · rw [el] at h4
              exact k q _ p H4 (e1.trans (e2.trans (e3.trans e4))) (ru.ex e4) h4
            · omega
          clear hc
          tm_at "s"
          cases lo
          · refine iteD (fun z => absurd z (by decide)) (fun _ => ?_)
            tm_at "s"
            refine s_mkJn (lo := false) (jt _ fun hj q H3 hq e3 ru => ?_)
            try dsimp only
            tm_at "s"
            rw [show (((i + 1 + (toks a).length + 1 + (toks b).length : Nat) : Int) + 1) = ((i + 1 + (toks a).length + 1 + (toks b).length + 1 : Nat) : Int) by omega]
            exact s_new (Nat.le_of_lt (small1000 (by simp))) fun p H4 n4 e4 h4 => fin hj q H3 e3 ru p H4 n4 e4 h4
          · refine iteD (fun _ => ?_) (fun z => absurd rfl z)
            tm_at "s"
            refine s_mkJn (lo := true) (jt _ fun hj q H3 hq e3 ru => ?_)
            try dsimp only
            tm_at "s"
            rw [show (((i + 1 + (toks a).length + 1 + (toks b).length : Nat) : Int) + 1) = ((i + 1 + (toks a).length + 1 + (toks b).length + 1 : Nat) : Int) by omega]
            exact s_new (Nat.le_of_lt (small1000 (by simp))) fun p H4 n4 e4 h4 => fin hj q H3 e3 ru p H4 n4 e4 h4
        · exact .inr ⟨by omega, (rzA (by omega)).ex e1⟩
      · exact .inr ⟨by omega, rzA (by omega)⟩
def rdR (z : Str) : Except Nat Unit := match ruleEnd (wds z) with
  | .error j => .error j
  | .ok j => if j < (wds z).length then .error j else .ok ()
theorem rdR_text {t : RT} (ok : t.ok) (hn : t.n ≤ 6) : ruleEnd (wds (textT t)) = .ok (wds (textT t)).length := by rw [wds_textT]; exact ruleEnd_toks ok hn
theorem join_wds (z : Str) : Txt.join " " (wds z) = z := by
  refine str_ext ?_
  show TL.tl (Txt.join " " (wds z)) = z.cps.toList
  rw [TL.join_eq, TL.tl_join, show TL.tl " " = [32] by decide +kernel]
  exact (wds_facts z).2.1
theorem rdR_ok {z : Str} (h : rdR z = .ok ()) : ∃ t : RT, t.ok ∧ t.n ≤ 6 ∧ z = textT t := by
  unfold rdR at h
  split at h
  · cases h
  · rename_i j e
    split at h
    · cases h
    · rename_i hj
      obtain ⟨t, ok, hn, h1, h2, h3⟩ := ruleEnd_tree e
      refine ⟨t, ok, hn, ?_⟩
      rw [show (wds z).drop j = [] from List.drop_eq_nil_of_le (by omega), List.append_nil] at h3
      rw [textT_join, ← h3, join_wds]
def spReadR (K : PySem.W.Frag) (C : RA) (CM CW : Addr) : Sp := fun vs H Q E => ∃ x, vs = [x] ∧ ((∃ z, x = .str z ∧ (z : Str).length ≤ 90000 ∧ ((∃ j, rdR z = .error j ∧ Rz2 CW "line" "word" (.int 0) (.int ((j : Nat) : Int)) H E) ∨
    (∃ t, t.ok ∧ t.n ≤ 6 ∧ z = textT t ∧ ((t.md ≤ 5000 ∧ ∀ q ps H', Ex H H' → RuAt C H' t q ps → Q (.ref q) H') ∨ (5000 < t.md ∧ Rz2 CM "what" "most" (.str "residues") (.int 5000) H E))))) ∨
  (NC K H (.type "str") x ∧ Rz2 CW "line" "word" (.int 0) (.int 0) H E))
theorem ok_readR {f : Addr} {fd : FuncData} (F : Fun K "read" "Rule.read" s_Rule_read f fd) (T : TxtR K mg C CR0 CY CS CR CM CL CW) (c_rule_end : FnO P w K mg base (L2.CX P w) 4 "rule_end" ["words", "begin"] (spRuleEnd CW)) (c_rule_told : FnO P w K mg base (L2.CX P w) 12 "rule_told" ["words", "at"] (spTold C CM 6)) (e_BadText : Er2 P w K mg base "BadText" CW "line" "word") :
    FnOk P w K mg base (L2.CX P w) 13 f fd ["text"] (spReadR K C CM CW) := by
  refine funO F sc_Rule_read (fun vs H Q E h => ?_) (fun cd A fr s H vs Q E hr h => ?_)
  · obtain ⟨x, rfl, _⟩ := h; rfl
  · obtain ⟨x, rfl, ⟨z, rfl, hz, hc⟩ | ⟨⟨ty, a, b⟩, rz⟩⟩ := h
    · refine ⟨_, (pss_cons (ps_if (pt_not (pt_val (pe_callB (KX.callIsi (K := K)) (by rfl) T.b_isinstance (by decide +kernel) (pa_cons (pv 0) (pa_cons (pe_bltn (v := .ty "str") (u := .type "str") (by rfl) T.b_str (by decide +kernel) rfl) pa_nil))))) (pss_one (ps_raise2 e_BadText hr rfl (takes_of rfl rfl rfl rfl) (pa_cons pe_int (pa_cons pe_int pa_nil)))) pss_nil)
      (pss_cons (ps_set (i := 1) sc_Rule_read.nd rfl (Or.inl rfl) (pe_split (pv 0) pe_str))
      (pss_cons (ps_set (i := 2) sc_Rule_read.nd rfl (Or.inl rfl) (pe_o c_rule_end hr (passT (takes_of rfl rfl rfl rfl) (fun _ _ _ _ h => h)) (pa_cons (pv 1) (pa_cons pe_int pa_nil))))
      (pss_cons (ps_if (pt_cmpR op_lt (pv 2) (pe_callB (KX.callLen (K := K)) (by rfl) T.b_len (by decide +kernel) (pa_cons (pv 1) pa_nil)) (nomark _)) (pss_one (ps_raise2 e_BadText hr rfl (takes_of rfl rfl rfl rfl) (pa_cons pe_int (pa_cons (pv 2) pa_nil)))) pss_nil)
      (pss_one (ps_ret (pe_ix (KX.ixU (K := K)) (pe_o c_rule_told hr (passT (takes_of rfl rfl rfl rfl) (fun _ _ _ _ h => h)) (pa_cons (pv 1) (pa_cons pe_int pa_nil))) pe_int (fun _ _ => rfl)))))))), ?_⟩
      tm_at "s"
      refine s_isiT (ty_str z) (b := true) (kit_ty (by decide +kernel)) ?_
      tm_at "s"
      refine s_splitW (by omega) fun lw H1 n1 e1 h1 => ?_
      have hw := wds_facts z
      have hwl := wds_len z
      try dsimp only
      tm_at "s"
      refine ⟨lw, wds z, rfl, h1, fun y hy => by have := (hw.2.2 y hy).2.1; omega, by omega, ?_⟩
      rcases hc with ⟨j, hj, rz⟩ | ⟨t, hok, hn, rfl, hc⟩
      · unfold rdR at hj
        cases e : ruleEnd (wds z) with
        | error j' =>
          rw [e] at hj
          cases hj
          exact .inr ⟨j, rfl, rz.ex e1⟩
        | ok j' =>
          rw [e] at hj
          dsimp only at hj
          split at hj
          · rename_i hlt
            cases hj
            refine .inl ⟨j, rfl, fun H2 e2 => ?_⟩
            tm_at "s"
            refine s_lenL (e2 _ _ h1) ?_
            tm_at "s"
            rw [List.length_map]
            refine iteD (fun _ => ?_) (fun h => absurd (Int.ofNat_lt.mpr hlt) h)
            tm_at "s"
            exact s_rz2 (rz.ex (e1.trans e2))
          · cases hj
      · refine .inl ⟨_, rdR_text hok hn, fun H2 e2 => ?_⟩
        tm_at "s"
        refine s_lenL (e2 _ _ h1) ?_
        tm_at "s"
        rw [List.length_map]
        refine iteD (fun h => absurd h (by omega)) (fun _ => ?_)
        tm_at "s"
        refine ⟨lw, wds (textT t), 0, t, [], rfl, e2 _ _ h1, by rw [wds_textT]; simp, hok, hn, hn, ?_⟩
        rcases hc with ⟨h5, k⟩ | ⟨h5, rz⟩
        · refine .inl ⟨h5, fun q ps p H3 e3 ru hp => ?_⟩
          tm_at "s"
          refine s_iT hp rfl ?_
          exact k q ps H3 (e1.trans (e2.trans e3)) ru
        · exact .inr ⟨h5, rz.ex (e1.trans e2)⟩
    · refine ⟨_, (pss_cons (ps_if (pt_not (pt_val (pe_callB (KX.callIsi (K := K)) (by rfl) T.b_isinstance (by decide +kernel) (pa_cons (pv 0) (pa_cons (pe_bltn (v := .ty "str") (u := .type "str") (by rfl) T.b_str (by decide +kernel) rfl) pa_nil))))) (pss_one (ps_raise2 e_BadText hr rfl (takes_of rfl rfl rfl rfl) (pa_cons pe_int (pa_cons pe_int pa_nil)))) pss_nil)
      (pss_cons (ps_set (i := 1) sc_Rule_read.nd rfl (Or.inl rfl) (pe_split (pv 0) pe_str))
      (pss_cons (ps_set (i := 2) sc_Rule_read.nd rfl (Or.inl rfl) (pe_o c_rule_end hr (passT (takes_of rfl rfl rfl rfl) (fun _ _ _ _ h => h)) (pa_cons (pv 1) (pa_cons pe_int pa_nil))))
      (pss_cons (ps_if (pt_cmpR op_lt (pv 2) (pe_callB (KX.callLen (K := K)) (by rfl) T.b_len (by decide +kernel) (pa_cons (pv 1) pa_nil)) (nomark _)) (pss_one (ps_raise2 e_BadText hr rfl (takes_of rfl rfl rfl rfl) (pa_cons pe_int (pa_cons (pv 2) pa_nil)))) pss_nil)
      (pss_one (ps_ret (pe_ix (KX.ixU (K := K)) (pe_o c_rule_told hr (passT (takes_of rfl rfl rfl rfl) (fun _ _ _ _ h => h)) (pa_cons (pv 1) (pa_cons pe_int pa_nil))) pe_int (fun _ _ => rfl)))))))), ?_⟩
      tm_at "s"
      refine s_isiT a b ?_
      tm_at "s"
      exact s_rz2 rz
def spStrR (C : RA) (j m : Nat) : Sp := fun vs H Q _ => ∃ t p ps, vs = [.ref p] ∧ RuAt C H t p ps ∧ t.ok ∧ t.ix = j ∧ t.n ≤ m ∧ t.n ≤ 6 ∧ Q (.str (textT t)) H
theorem log30 {n : Int} (h1 : -(10 ^ 30) ≤ n) (h2 : n ≤ 10 ^ 30) : n.natAbs.log2 < 1920 := log_le (show n.natAbs ≤ 10 ^ 30 by omega) (Nat.lt_of_lt_of_le (by decide +kernel : 10 ^ 30 < 2 ^ 100) (Nat.pow_le_pow_right (by decide) (by decide)))
theorem len30 {n : Int} (h1 : -(10 ^ 30) ≤ n) (h2 : n ≤ 10 ^ 30) : (strOf n).length ≤ 32 := by
  have h : n.natAbs ≤ 10 ^ 30 := by omega
  exact (pg_strOf (k := 31) (by decide) (Nat.lt_of_le_of_lt h (Nat.pow_lt_pow_right (by decide) (by decide)))).1
theorem fitN {n : Nat} (h : n ≤ 10000) : n ≤ sizeLine := Nat.le_trans h (by decide +kernel)
theorem emp_app (z : Str) : Str.empty ++ z = z := TL.ext_tl (by rw [TL.tl_append]; rfl)
theorem app_assoc (a b c : Str) : a ++ b ++ c = a ++ (b ++ c) := TL.ext_tl (by simp only [TL.tl_append, List.append_assoc])
theorem ok_Fstr {f : Addr} {fd : FuncData} (F : Fun K "__str__" "Fixed.__str__" s_Fixed___str__ f fd) (T : TxtR K mg C CR0 CY CS CR CM CL CW) (m : Nat) : FnOk P w K mg base (L2.CX P w) (m + 1) f fd ["self"] (spStrR C 0 m) := by
  refine funO F sc_Fixed___str__ (fun vs H Q E h => ?_) (fun cd A fr s H vs Q E hr h => ?_)
  · obtain ⟨t, p, ps, rfl, _⟩ := h; rfl
  · obtain ⟨t, p, ps, rfl, ru, hok, hj, hm, h6, k⟩ := h
    refine ⟨_, (pss_one (ps_ret (pe_joined (PJ.cons pe_str (PJ.cons (pe_fmt (KX.fld (K := K) rfl (pv 0) rfl)) PJ.nil))))), ?_⟩
    tm_at "s"
    match t, hj, ru, hok, k with
    | .fx i, _, ⟨e0, d1, t1, h1, _⟩, hok, k =>
      have a1 : 1 ≤ i := hok.1
      have hl := len30 (n := i) (by omega) hok.2
      refine ⟨_, rfl, fitN (by rw [len_app]; decide), ?_⟩
      refine ⟨.ref p, rfl, p, C.f, d1, _, _, rfl, h1, T.f.cl, T.nFs, rfl, .inr ⟨i, rfl, log30 (by omega) hok.2, strOf i, rfl, fitN (by rw [len_app, len_app]; show 0 + 6 + _ ≤ _; omega), ?_⟩⟩
      show Q (.str (Str.empty ++ "fixed " ++ strOf i)) H
      rw [emp_app]
      exact k
theorem ok_Dstr {f : Addr} {fd : FuncData} (F : Fun K "__str__" "Divided.__str__" s_Divided___str__ f fd) (T : TxtR K mg C CR0 CY CS CR CM CL CW) (m : Nat) : FnOk P w K mg base (L2.CX P w) (m + 1) f fd ["self"] (spStrR C 1 m) := by
  refine funO F sc_Divided___str__ (fun vs H Q E h => ?_) (fun cd A fr s H vs Q E hr h => ?_)
  · obtain ⟨t, p, ps, rfl, _⟩ := h; rfl
  · obtain ⟨t, p, ps, rfl, ru, hok, hj, hm, h6, k⟩ := h
    refine ⟨_, (pss_one (ps_ret (pe_joined (PJ.cons pe_str (PJ.cons (pe_fmt (KX.fld (K := K) rfl (pv 0) rfl)) (PJ.cons pe_str (PJ.cons (pe_fmt (KX.fld (K := K) rfl (pv 0) rfl)) (PJ.cons pe_str (PJ.cons (pe_fmt (KX.fld (K := K) rfl (pv 0) rfl)) PJ.nil))))))))), ?_⟩
    tm_at "s"
    match t, hj, ru, hok, k with
    | .dv x y z, _, ⟨e0, d1, t1, h1, _⟩, hok, k =>
      obtain ⟨hx, hy, hz⟩ := id hok
      have lx := len30 (n := x) (by omega) (by omega)
      have ly := len30 (n := y) (by omega) (by omega)
      have lz := len30 (n := z) (by omega) (by omega)
      refine ⟨_, rfl, fitN (by rw [len_app]; decide), ?_⟩
      refine ⟨.ref p, rfl, p, C.d, d1, _, _, rfl, h1, T.d.cl, T.nDx, rfl, .inr ⟨x, rfl, log30 (by omega) (by omega), strOf x, rfl, fitN (by rw [len_app, len_app]; show 0 + 8 + _ ≤ _; omega), ?_⟩⟩
      refine ⟨_, rfl, fitN (by rw [len_app, len_app, len_app]; show 0 + 8 + _ + 1 ≤ _; omega), ?_⟩
      refine ⟨.ref p, rfl, p, C.d, d1, _, _, rfl, h1, T.d.cl, T.nDy, rfl, .inr ⟨y, rfl, log30 (by omega) (by omega), strOf y, rfl, fitN (by rw [len_app, len_app, len_app, len_app]; show 0 + 8 + _ + 1 + _ ≤ _; omega), ?_⟩⟩
      refine ⟨_, rfl, fitN (by rw [len_app, len_app, len_app, len_app, len_app]; show 0 + 8 + _ + 1 + _ + 1 ≤ _; omega), ?_⟩
      refine ⟨.ref p, rfl, p, C.d, d1, _, _, rfl, h1, T.d.cl, T.nDw, rfl, .inr ⟨z, rfl, log30 (by omega) (by omega), strOf z, rfl, fitN (by rw [len_app, len_app, len_app, len_app, len_app, len_app]; show 0 + 8 + _ + 1 + _ + 1 + _ ≤ _; omega), ?_⟩⟩
      show Q (.str (Str.empty ++ "divided " ++ strOf x ++ " " ++ strOf y ++ " " ++ strOf z)) H
      rw [emp_app]
      exact k
theorem ok_Lstr {f : Addr} {fd : FuncData} (F : Fun K "__str__" "Lesser.__str__" s_Lesser___str__ f fd) (T : TxtR K mg C CR0 CY CS CR CM CL CW) (m : Nat) (mf_str : ∀ j, j < 4 → MeF P w K mg base (C.at j) (2 * m + 1) (spStrR C j m)) : FnOk P w K mg base (L2.CX P w) (2 * m + 2 + 1) f fd ["self"] (spStrR C 2 (m + 1)) := by
  refine funO F sc_Lesser___str__ (fun vs H Q E h => ?_) (fun cd A fr s H vs Q E hr h => ?_)
  · obtain ⟨t, p, ps, rfl, _⟩ := h; rfl
  · obtain ⟨t, p, ps, rfl, ru, hok, hj, hm, h6, k⟩ := h
    refine ⟨_, (pss_one (ps_ret (pe_joined (PJ.cons pe_str (PJ.cons (pe_any (n := 4) fun j hj => pe_fmtO (hk := Nat.le_refl _) (mf_str j hj) hr (passT (takes_of rfl rfl rfl rfl) (fun _ _ _ _ h => h)) (KX.fld (K := K) rfl (pv 0) rfl)) (PJ.cons pe_str (PJ.cons (pe_any (n := 4) fun j hj => pe_fmtO (hk := Nat.le_refl _) (mf_str j hj) hr (passT (takes_of rfl rfl rfl rfl) (fun _ _ _ _ h => h)) (KX.fld (K := K) rfl (pv 0) rfl)) (PJ.cons pe_str PJ.nil)))))))), ?_⟩
    tm_at "s"
    match t, hj, ru, hok, hm, h6, k with
    | .jn true a b, _, ⟨qa, qb, pa, pb, d1, t1, e0, h1, _, ra, rb⟩, hok, hm, h6, k =>
      have hm2 : a.n + b.n ≤ m + 1 := hm
      have h62 : a.n + b.n ≤ 6 := h6
      have na := a.n_pos
      have nb := b.n_pos
      have la := (textT_pt hok.1).1
      have lb := (textT_pt hok.2).1
      refine ⟨_, rfl, fitN (by rw [len_app]; decide), ?_⟩
      obtain ⟨da, fa, _, ia, _⟩ := ra.ins
      obtain ⟨db, fb, _, ib, _⟩ := rb.ins
      refine ⟨a.ix, a.ix_lt, .ref p, rfl, p, C.l, d1, _, _, rfl, h1, T.l.cl, T.nLo, rfl, qa, da, fa, rfl, ia, a, qa, pa, rfl, ra, hok.1, rfl, by omega, by omega, textT a, rfl, textT a, rfl, fitN (by rw [len_app, len_app]; show 0 + 2 + _ ≤ _; omega), ?_⟩
      refine ⟨_, rfl, fitN (by rw [len_app, len_app, len_app]; show 0 + 2 + _ + 3 ≤ _; omega), ?_⟩
      refine ⟨b.ix, b.ix_lt, .ref p, rfl, p, C.l, d1, _, _, rfl, h1, T.l.cl, T.nLt, rfl, qb, db, fb, rfl, ib, b, qb, pb, rfl, rb, hok.2, rfl, by omega, by omega, textT b, rfl, textT b, rfl, fitN (by rw [len_app, len_app, len_app, len_app]; show 0 + 2 + _ + 3 + _ ≤ _; omega), ?_⟩
      refine ⟨_, rfl, fitN (by rw [len_app, len_app, len_app, len_app, len_app]; show 0 + 2 + _ + 3 + _ + 2 ≤ _; omega), ?_⟩
      have e : Str.empty ++ "( " ++ textT a ++ " & " ++ textT b ++ " )" = textT (.jn true a b) := by
        rw [emp_app]
        show _ = "( " ++ textT a ++ " " ++ "&" ++ " " ++ textT b ++ " )"
        have : (" & " : Str) = " " ++ ("&" ++ " ") := by decide +kernel
        rw [this]
        simp only [app_assoc]
      show Q (.str (Str.empty ++ "( " ++ textT a ++ " & " ++ textT b ++ " )")) H
      rw [e]
      exact k
theorem ok_Gstr {f : Addr} {fd : FuncData} (F : Fun K "__str__" "Greater.__str__" s_Greater___str__ f fd) (T : TxtR K mg C CR0 CY CS CR CM CL CW) (m : Nat) (mf_str : ∀ j, j < 4 → MeF P w K mg base (C.at j) (2 * m + 1) (spStrR C j m)) : FnOk P w K mg base (L2.CX P w) (2 * m + 2 + 1) f fd ["self"] (spStrR C 3 (m + 1)) := by
  refine funO F sc_Greater___str__ (fun vs H Q E h => ?_) (fun cd A fr s H vs Q E hr h => ?_)
  · obtain ⟨t, p, ps, rfl, _⟩ := h; rfl
  · obtain ⟨t, p, ps, rfl, ru, hok, hj, hm, h6, k⟩ := h
    refine ⟨_, (pss_one (ps_ret (pe_joined (PJ.cons pe_str (PJ.cons (pe_any (n := 4) fun j hj => pe_fmtO (hk := Nat.le_refl _) (mf_str j hj) hr (passT (takes_of rfl rfl rfl rfl) (fun _ _ _ _ h => h)) (KX.fld (K := K) rfl (pv 0) rfl)) (PJ.cons pe_str (PJ.cons (pe_any (n := 4) fun j hj => pe_fmtO (hk := Nat.le_refl _) (mf_str j hj) hr (passT (takes_of rfl rfl rfl rfl) (fun _ _ _ _ h => h)) (KX.fld (K := K) rfl (pv 0) rfl)) (PJ.cons pe_str PJ.nil)))))))), ?_⟩
    tm_at "s"
    match t, hj, ru, hok, hm, h6, k with
    | .jn false a b, _, ⟨qa, qb, pa, pb, d1, t1, e0, h1, _, ra, rb⟩, hok, hm, h6, k =>
      have hm2 : a.n + b.n ≤ m + 1 := hm
      have h62 : a.n + b.n ≤ 6 := h6
      have na := a.n_pos
      have nb := b.n_pos
      have la := (textT_pt hok.1).1
      have lb := (textT_pt hok.2).1
      refine ⟨_, rfl, fitN (by rw [len_app]; decide), ?_⟩
      obtain ⟨da, fa, _, ia, _⟩ := ra.ins
      obtain ⟨db, fb, _, ib, _⟩ := rb.ins
      refine ⟨a.ix, a.ix_lt, .ref p, rfl, p, C.g, d1, _, _, rfl, h1, T.g.cl, T.nGo, rfl, qa, da, fa, rfl, ia, a, qa, pa, rfl, ra, hok.1, rfl, by omega, by omega, textT a, rfl, textT a, rfl, fitN (by rw [len_app, len_app]; show 0 + 2 + _ ≤ _; omega), ?_⟩
      refine ⟨_, rfl, fitN (by rw [len_app, len_app, len_app]; show 0 + 2 + _ + 3 ≤ _; omega), ?_⟩
      refine ⟨b.ix, b.ix_lt, .ref p, rfl, p, C.g, d1, _, _, rfl, h1, T.g.cl, T.nGt, rfl, qb, db, fb, rfl, ib, b, qb, pb, rfl, rb, hok.2, rfl, by omega, by omega, textT b, rfl, textT b, rfl, fitN (by rw [len_app, len_app, len_app, len_app]; show 0 + 2 + _ + 3 + _ ≤ _; omega), ?_⟩
      refine ⟨_, rfl, fitN (by rw [len_app, len_app, len_app, len_app, len_app]; show 0 + 2 + _ + 3 + _ + 2 ≤ _; omega), ?_⟩
      have e : Str.empty ++ "( " ++ textT a ++ " | " ++ textT b ++ " )" = textT (.jn false a b) := by
        rw [emp_app]
        show _ = "( " ++ textT a ++ " " ++ "|" ++ " " ++ textT b ++ " )"
        have : (" | " : Str) = " " ++ ("|" ++ " ") := by decide +kernel
        rw [this]
        simp only [app_assoc]
      show Q (.str (Str.empty ++ "( " ++ textT a ++ " | " ++ textT b ++ " )")) H
      rw [e]
      exact k
end
end K49
end
section
local macro_rules | `(tactic| tm_at "s1") => `(tactic| first
  | with_reducible first
    | refine L3.s_seq ?_ | refine L3.s_asg ?_ | refine L3.s_op ?_ | refine L3.s_c ?_ | refine L3.s_cb ?_ | refine L3.s_cons ?_ | refine L3.s_nil ?_ | refine L3.s_test ?_ | refine L3.s_bl ?_
    | refine L3.s_I0 ?_ | refine L3.s_and ?_ | refine L3.s_or ?_ | refine L3.s_not ?_ | refine L3.s_if ?_ | refine L3.s_next ?_ | refine L3.s_ret ?_ | refine L3.s_retN ?_ | refine L3.s_asgS ?_ | refine L3.s_drop ?_
    | refine L3.s_un ?_ | refine L3.s_U ?_ | refine L3.s_int ?_ | refine L3.s_intB ?_ | refine L3.s_abs ?_ | refine L3.s_andV ?_ | refine L3.s_orV ?_ | refine L3.s_notV ?_ | refine L3.s_ifE ?_ | refine L3.s_call ?_ | refine L3.s_lst ?_ | refine L3.s_tup ?_ | refine L3.s_tB ?_
    | refine L3.s_addI ?_ | refine L3.s_inS ?_ | refine L3.s_ninS ?_ | refine L3.s_slice ?_ | refine L3.s_part ?_ | refine L3.s_partI ?_ | refine L3.s_nopart ?_ | refine L3.s_cI ?_ | refine L3.s_cB ?_ | refine L3.s_chain ?_ | refine L3.s_bm ?_ | refine L3.s_lcS ?_ | refine L3.s_lcR ?_ | refine L3.s_strE ?_
    | refine L2.iteT ?_ | refine L2.iteF ?_ | refine L3.iteNF ?_ | refine L3.iteNT ?_
    | refine L3.s_eqI ?_ | refine L3.s_neI ?_ | refine L3.s_eqS ?_ | refine L3.s_neS ?_
    | refine L3.s_pair ?_ | refine L3.s_pair2 ?_ | refine L3.s_fld ?_ | refine L3.s_make ?_ | refine L3.s_m1 ?_ | refine L3.s_isstr ?_
    | refine L3.s_xfV ?_ | refine L3.s_lstN ?_ | refine L3.s_callF ?_ | refine L3.s_lcL ?_ | refine L3.s_par3 ?_ | refine L3.s_trip ?_ | refine L3.s_asgT' ?_ | refine L3.s_gC ?_ | refine L3.s_gN ?_ | refine L3.s_fldG ?_ | refine L3.s_raise1 ?_ | refine L3.s_raise2 ?_ | refine L3.s_star ?_ | refine L3.s_mkCR ?_ | refine L3.s_lcZ ?_ | refine L3.s_forL ?_ | refine L3.s_forT ?_ | refine L3.s_gNm ?_ | refine L3.s_forE ?_ | refine L3.s_stC ?_ | refine L3.s_cmC ?_ | refine L3.s_forR1 ?_ | refine L3.s_lcTp ?_ | refine L3.s_forZ ?_ | refine L3.s_orT ?_ | refine L3.s_mt ?_ | refine L3.s_revT ?_ | refine L3.s_revL ?_ | refine L3.s_slOwn ?_ | refine L3.s_sl3 ?_ | refine L3.s_lcO ?_ | refine L3.s_stR ?_
    | refine L3.s_isN ?_ | refine L3.s_isB ?_ | refine L3.s_nisN ?_ | refine L3.s_nisB ?_
  | ((with_reducible refine' L3.s_var ?e ?_); (case e => rfl))
  | ((with_reducible refine' L3.s_aug ?e ?_); (case e => rfl))
  | ((with_reducible refine' L3.s_pow ?c ?_); (case c => exact ⟨by decide, by decide, by decide⟩)))
local macro_rules | `(tactic| tm_at "s") => `(tactic| repeat tm_at "s1")
namespace K49
open PySem PySem.NumText PySem.Spec PyProof.Rows L2 L3 LamX RZ ClX
abbrev s__law_text : Stmt := topS 45
abbrev names__law_text : List Str := ["_law_plain_here", "_law_part"]
theorem sc__law_text : FnScope ["_law_plain_here", "_law_part"] ["_law_plain_here"] (defScope s__law_text) := ⟨rfl, rfl, rfl, by decide +kernel, rfl, by decide +kernel, by decide +kernel⟩
section
variable {P : Program} {w : World} {K : PySem.W.Frag} {mg : Str → Option Value} {base : Heap} {C : RA} {CR0 CY CS CR CM CL CW : Addr}
def spText (m : Nat) : Sp := fun vs H Q _ => ∃ t v, vs = [v] ∧ PlAt H t v ∧ t.ok ∧ t.n ≤ m ∧ t.n ≤ 7 ∧ ∀ H', Ex H H' → Q (.str (textT t)) H'
theorem lt4300 {n : Int} (h1 : -(10 ^ 30) ≤ n) (h2 : n ≤ 10 ^ 30) : n.natAbs < 10 ^ 4300 := by
  have : n.natAbs ≤ 10 ^ 30 := by omega
  exact Nat.lt_of_le_of_lt this (Nat.pow_lt_pow_right (by decide) (by decide))
theorem tok_sum {t : RT} (ok : t.ok) (h : t.n ≤ 7) : ((toks t).map (·.length)).sum + (toks t).length * (" " : Str).length ≤ 16777216 := by
  have h1 := sum_le (m := 40) (ys := toks t) fun y hy => (tok_pt t ok y hy).1
  have h2 := toks_len t
  rw [show (" " : Str).length = 1 by decide +kernel]
  omega
theorem ok_text {f : Addr} {fd : FuncData} (F : Fun K "_law_text" "_law_text" s__law_text f fd) (T : TxtR K mg C CR0 CY CS CR CM CL CW) (m : Nat) (c__law_text : Fn P w K mg base CX0 (m + 1) "_law_text" ["_law_plain_here"] (spText m)) :
    FnG P w K mg base CX0 (m + 2) f fd ["_law_plain_here"] (spText (m + 1)) := by
  refine funG F sc__law_text (fun vs H Q E h => ?_) (fun cd A fr s H vs Q E hr hg h => ?_)
  · obtain ⟨t, v, rfl, _⟩ := h; rfl
  · obtain ⟨t, v, rfl, pl, hok, hm, h7, k⟩ := h
    refine ⟨_, (pss_cons (ps_if (pt_cmpR (KX.opIn (K := K)) (pe_ix (KX.ixU (K := K)) (pv 0) pe_int (fun _ _ => rfl)) (pe_tup (pa_cons pe_str (pa_cons pe_str pa_nil))) (by rfl)) (pss_one (ps_ret (L2.pe_join pe_str (pe_lc (own := [("_law_part", 1)]) (g := gName 1) (tt := tYes) (by rfl) sc__law_text.nd (pi_tup (pv 0)) (blkOk_by (own := [("_law_part", 1)]) (N := names__law_text) (sc := defScope s__law_text) (by decide +kernel)) (fun _ _ _ _ _ => pg_name (i := 1) sc__law_text.nd rfl (Or.inl rfl)) (fun _ _ _ _ _ => pts_nil) (fun _ _ _ _ _ => (pe_callTy (KX.strV (K := K) rfl rfl) (by rfl) T.b_str (by decide +kernel) (pa_cons (pv 1) pa_nil))))))) pss_nil)
      (pss_one (ps_ret (pe_op opAdd (pe_op opAdd (pe_op opAdd (pe_op opAdd (pe_op opAdd (pe_op opAdd pe_str (pe_f (hk := by omega) c__law_text hr hg pass0 (pa_cons (pe_ix (KX.ixU (K := K)) (pv 0) pe_int (fun _ _ => rfl)) pa_nil))) pe_str) (pe_ix (KX.ixU (K := K)) (pv 0) pe_int (fun _ _ => rfl))) pe_str) (pe_f (hk := by omega) c__law_text hr hg pass0 (pa_cons (pe_ix (KX.ixU (K := K)) (pv 0) pe_int (fun _ _ => rfl)) pa_nil))) pe_str)))), ?_⟩
    tm_at "s"
    match t, v, pl, hok, hm, h7, k with
    | .fx i, _, ⟨p, rfl, hp⟩, hok, hm, h7, k =>
      have a1 : 1 ≤ i := hok.1
      refine s_iT hp rfl ?_
      tm_at "s"
      refine s_new (Nat.le_of_lt (small1000 (by simp))) fun q H1 n1 e1 h1 => ?_
      refine s_inT (.inl (.inl h1)) rfl rfl ?_
      rw [show inV (.str "fixed") [.str "fixed", .str "divided"] = true by decide]
      tm_at "s"
      refine ⟨p, rfl, ⟨_, .inl (.inl (e1 _ _ hp))⟩, lcTI (fun _ => true) (fun j => .str ((toks (.fx i)).getD j "")) (e1 _ _ hp) (small1000 (by simp)) (fun _ => rfl) (fun j x H1 R hx e r => r) (fun j x H2 R hx _ e r => ?_) fun D H2 nD e2 hD => ?_⟩
      · tm_at "s"
        match j, hx with
        | 0, hx =>
          cases hx
          exact s_strVT (r H2 (Ex.refl _))
        | 1, hx =>
          cases hx
          exact s_strVI T.digits (lt4300 (by omega) hok.2) (r H2 (Ex.refl _))
      · exact ⟨" ", D, toks (.fx i), rfl, rfl, .inl (.inl (.inl hD)), tok_sum hok h7, by rw [← textT_join]; exact k _ (e1.trans e2)⟩
    | .dv x y z, _, ⟨p, rfl, hp⟩, hok, hm, h7, k =>
      obtain ⟨hx1, hy1, hz1⟩ := id hok
      refine s_iT hp rfl ?_
      tm_at "s"
      refine s_new (Nat.le_of_lt (small1000 (by simp))) fun q H1 n1 e1 h1 => ?_
      refine s_inT (.inl (.inl h1)) rfl rfl ?_
      rw [show inV (.str "divided") [.str "fixed", .str "divided"] = true by decide]
      tm_at "s"
      refine ⟨p, rfl, ⟨_, .inl (.inl (e1 _ _ hp))⟩, lcTI (fun _ => true) (fun j => .str ((toks (.dv x y z)).getD j "")) (e1 _ _ hp) (small1000 (by simp)) (fun _ => rfl) (fun j x H1 R hx e r => r) (fun j x' H2 R hx _ e r => ?_) fun D H2 nD e2 hD => ?_⟩
      · tm_at "s"
        match j, hx with
        | 0, hx =>
          cases hx
          exact s_strVT (r H2 (Ex.refl _))
        | 1, hx =>
          cases hx
          exact s_strVI T.digits (lt4300 (by omega) (by omega)) (r H2 (Ex.refl _))
        | 2, hx =>
          cases hx
          exact s_strVI T.digits (lt4300 (by omega) (by omega)) (r H2 (Ex.refl _))
        | 3, hx =>
          cases hx
          exact s_strVI T.digits (lt4300 (by omega) (by omega)) (r H2 (Ex.refl _))
      · exact ⟨" ", D, toks (.dv x y z), rfl, rfl, .inl (.inl (.inl hD)), tok_sum hok h7, by rw [← textT_join]; exact k _ (e1.trans e2)⟩
    | .jn lo a b, _, ⟨p, u1, u2, rfl, hp, pa, pb⟩, hok, hm, h7, k =>
      have hab : a.n + b.n ≤ m + 1 := hm
      have h72 : a.n + b.n ≤ 7 := h7
      have na := a.n_pos
      have nb := b.n_pos
      have la := (textT_pt hok.1).1
      have lb := (textT_pt hok.2).1
      have ls : (sgnS lo).length = 1 := by cases lo <;> decide
      refine s_iT hp rfl ?_
      tm_at "s"
      refine s_new (Nat.le_of_lt (small1000 (by simp))) fun q H1 n1 e1 h1 => ?_
      refine s_inT (.inl (.inl h1)) rfl rfl ?_
      rw [show inV (.str (sgnS lo)) [.str "fixed", .str "divided"] = false by cases lo <;> decide]
      tm_at "s"
      refine s_iT (e1 _ _ hp) rfl ?_
      tm_at "s"
      refine ⟨a, u1, rfl, pa.ex e1, hok.1, by omega, by omega, fun H2 e2 => ?_⟩
      refine s_addS (fitN (by show 2 + _ ≤ _; omega)) ?_
      tm_at "s"
      refine s_addS (fitN (by rw [len_app]; show 2 + _ + 1 ≤ _; omega)) ?_
      tm_at "s"
      refine s_iT (e2 _ _ (e1 _ _ hp)) rfl ?_
      refine s_addS (fitN (by rw [len_app, len_app, ls]; show 2 + _ + 1 + 1 ≤ _; omega)) ?_
      tm_at "s"
      refine s_addS (fitN (by rw [len_app, len_app, len_app, ls]; show 2 + _ + 1 + 1 + 1 ≤ _; omega)) ?_
      tm_at "s"
      refine s_iT (e2 _ _ (e1 _ _ hp)) rfl ?_
      tm_at "s"
      refine ⟨b, u2, rfl, pb.ex (e1.trans e2), hok.2, by omega, by omega, fun H3 e3 => ?_⟩
      refine s_addS (fitN (by rw [len_app, len_app, len_app, len_app, ls]; show 2 + _ + 1 + 1 + 1 + _ ≤ _; omega)) ?_
      tm_at "s"
      refine s_addS (fitN (by rw [len_app, len_app, len_app, len_app, len_app, ls]; show 2 + _ + 1 + 1 + 1 + _ + 2 ≤ _; omega)) ?_
      exact k _ (e1.trans (e2.trans e3))
end
end K49
end
section
namespace L3
open PySem PySem.NumText PySem.Spec PyProof.Rows L2 LamX RZ ClX
def rNotInTD (K : PySem.W.Frag) : R2 := fun x y H Q => ∃ d ds, Dp K H x d ∧ Dp K H y (.tuple ds) ∧ SeqAt.shaped d = true ∧ SeqAt.shaped (.tuple ds) = true ∧ Q (.bl (!ds.any fun z => PyData.eqv z d)) H
theorem KX.notInTD {X : Cx} {K : PySem.W.Frag} (hK : X.K = K) (hu : X.A.units + 65 < cLine) : OpR X (compareOp .NotIn) (rNotInTD K) := by
  subst hK
  intro pins s σ H x y v u Q I rx ry h
  obtain ⟨d, ds, hd, he, sd, se, q⟩ := h
  obtain ⟨as, r1⟩ := Dp.reads I d x v hd rx
  obtain ⟨bs, r2⟩ := Dp.reads I (.tuple ds) y u he ry
  exact SeqAt.notIn_tuple_reads r2 r1 (SeqAt.canLay_of_shaped se) (SeqAt.canLay_of_shaped sd) (room_in_shaped sd hu) ⟨.bl _, H, I, rfl, q⟩
def rEqLT (K : PySem.W.Frag) : R2 := fun x y H Q => ∃ p q xs ys, x = .ref p ∧ y = .ref q ∧ SqL K H p xs ∧ SqT K H q ys ∧ Q (.bl false) H
theorem eqLT {X : Cx} (hu : X.A.units < cLine) : OpR X (compareOp .Eq) (rEqLT X.K) := by
  intro pins s σ H x y v u Q I rx ry h
  obtain ⟨p, q, xs, ys, rfl, rfl, hp, hq, k⟩ := h
  obtain rfl : v = Value.ref p := rx
  obtain rfl : u = Value.ref q := ry
  obtain ⟨its, _, ⟨o, n, ho, hc, _, hd⟩, _⟩ := I.list hp
  obtain ⟨jts, _, h2, _⟩ := I.tuple hq
  show wpAny _ _ (richCompare .Eq _ _) _ _ _
  exact SeqAt.RcAt.list_tuple (items := its.toArray) (items2 := jts.toArray) ⟨o, ho, hc, n, hd⟩ h2 hu _ _ _ _ ⟨.bl false, H, I, rfl, k⟩
/-- == of flat things, of data, or of a list and a tuple -/
def rEqV (K : PySem.W.Frag) : R2 := fun x y H Q => rEqU K x y H Q ∨ rEqLT K x y H Q
theorem KX.eqV {X : Cx} {K : PySem.W.Frag} {k : Nat} (hK : X.K = K) (hr : Room k X.A) : OpR X (compareOp .Eq) (rEqV K) := by
  subst hK
  exact OpR.or (KX.eqU rfl hr.units) (eqLT (by have := hr.units; omega))
def oneS (c : Nat) : Str := ⟨#[c]⟩
theorem dpStrs {K : PySem.W.Frag} {H : Hp} : ∀ l : List Nat, DpAll K H (l.map fun c => V.str (oneS c)) (l.map fun c => PyData.str (oneS c))
  | [] => .nil
  | _ :: r => .cons (.str _) (dpStrs r)
theorem shStrs {l : List Nat} (h : ∀ c ∈ l, c < 1114112) : SeqAt.shaped (.list (l.map fun c => PyData.str (oneS c))) = true := by
  have h1 : ∀ l : List Nat, (∀ c ∈ l, c < 1114112) → PyData.canLayAll0 (l.map fun c => PyData.str (oneS c)) = true := by
    intro l
    induction l with
    | nil => intro _; rfl
    | cons x r ih =>
      intro h
      rw [List.map_cons]
      unfold PyData.canLayAll0
      rw [ih fun c hc => h c (List.mem_cons_of_mem _ hc)]
      have hx := h x List.mem_cons_self
      unfold PyData.canLay0 PyData.strOk oneS
      simp [hx]
  have h2 : ∀ l : List Nat, PyData.depthAll (l.map fun c => PyData.str (oneS c)) = 0 := by
    intro l
    induction l with
    | nil => rfl
    | cons x r ih => rw [List.map_cons]; unfold PyData.depthAll; rw [ih]; rfl
  unfold SeqAt.shaped PyData.canLay0 PyData.depth
  rw [h1 l h, h2]; decide
theorem eqv_nil' (l : List PyData) : PyData.eqv (.list l) (.list []) = l.isEmpty := by
  cases l <;> rfl
theorem filt_empty {l : List Nat} (p : Nat → Bool) : ((l.filter fun c => !p c).map fun c => PyData.str (oneS c)).isEmpty = l.all p := by
  rw [List.isEmpty_map]
  induction l with
  | nil => rfl
  | cons x r ih =>
    rw [List.all_cons, List.filter_cons]
    cases p x <;> simp [ih]
theorem figs_len1 (z : Str) : z.length ≤ (figsOf z).length + 1 := by
  unfold figsOf
  split
  · have e1 := len_codes (cutS z (some 1) none)
    have e2 := len_codes z
    rw [cut_drop, List.length_drop] at e1
    omega
  · omega
theorem numB_no {z : Str} {lo hi : Int} (h : figB z = false) : numB z lo hi = false := by unfold numB; rw [h, Bool.false_and]
theorem numB_long {z : Str} {lo hi : Int} (hlo : -(10 ^ 31) ≤ lo) (hhi : hi ≤ 10 ^ 31) (h : 40 < (figsOf z).length) : numB z lo hi = false := by
  cases e : numB z lo hi with
  | false => rfl
  | true =>
    obtain ⟨n, rfl, h1, h2⟩ := (numB_iff hlo hhi).mp e
    have hn : n.natAbs ≤ 10 ^ 31 := by omega
    have hl : (strOf n).length ≤ 33 := (pg_strOf (k := 32) (by decide) (Nat.lt_of_le_of_lt hn (Nat.pow_lt_pow_right (by decide) (by decide)))).1
    have := figs_len (strOf n)
    omega
theorem numB_yes {z : Str} {lo hi : Int} (h1 : (figsOf z).cps.toList ≠ []) (h2 : (figsOf z).cps.toList.all isDig = true) (h3 : (figsOf z).length ≤ 40) :
    numB z lo hi = (decide (strOf (valOf z) = z) && (decide (lo ≤ valOf z) && decide (valOf z ≤ hi))) := by
  have hb := str_back h1 h2
  have hpos : 0 < (figsOf z).cps.toList.length := List.length_pos_iff.mpr h1
  have hl := len_codes (figsOf z)
  unfold numB
  have : figB z = decide (strOf (valOf z) = z) := by
    unfold figB
    rw [hb, h2, decide_eq_true (show 1 ≤ ((figsOf z).length : Int) by omega), decide_eq_true (show ((figsOf z).length : Int) ≤ 4000 by omega)]
    rfl
  rw [this]
theorem rEnd_more {ws : List Str} : ∀ {f i m : Nat}, ws.length + 1 - i ≤ f → i ≤ ws.length → rEnd ws (f + 1) i m = rEnd ws f i m := by
  intro f
  induction f with
  | zero => intro i m h1 h2; omega
  | succ f ih =>
    intro i m h1 h2
    rw [show rEnd ws (f + 1 + 1) i m = (if wAt ws i = "(" then
      match rEnd ws (f + 1) (i + 1) m with
      | .error e => .error e
      | .ok (i, m) =>
        if wAt ws i = "&" ∨ wAt ws i = "|" then
          match rEnd ws (f + 1) (i + 1) m with
          | .error e => .error e
          | .ok (j, m') => if wAt ws j = ")" then .ok (j + 1, m') else .error j
        else .error i
    else match bnds (wAt ws i) with
      | none => .error i
      | some b => if m = 6 then .error i else
        match numsE ws (i + 1) b with
        | .error e => .error e
        | .ok j => .ok (j, m + 1)) from rfl]
    rw [show rEnd ws (f + 1) i m = (if wAt ws i = "(" then
      match rEnd ws f (i + 1) m with
      | .error e => .error e
      | .ok (i, m) =>
        if wAt ws i = "&" ∨ wAt ws i = "|" then
          match rEnd ws f (i + 1) m with
          | .error e => .error e
          | .ok (j, m') => if wAt ws j = ")" then .ok (j + 1, m') else .error j
        else .error i
    else match bnds (wAt ws i) with
      | none => .error i
      | some b => if m = 6 then .error i else
        match numsE ws (i + 1) b with
        | .error e => .error e
        | .ok j => .ok (j, m + 1)) from rfl]
    by_cases hw : wAt ws i = "("
    · have hl := wAt_lt (ws := ws) (i := i) (by rw [hw]; decide)
      rw [if_pos hw, if_pos hw, ih (by omega) (by omega)]
      cases e1 : rEnd ws f (i + 1) m with
      | error e => rfl
      | ok p =>
        obtain ⟨i1, m1⟩ := p
        have h5 := rEnd_ok e1
        dsimp only
        by_cases hs : wAt ws i1 = "&" ∨ wAt ws i1 = "|"
        · have hl2 := wAt_lt (ws := ws) (i := i1) (by rcases hs with q | q <;> rw [q] <;> decide)
          rw [if_pos hs, if_pos hs, ih (by omega) (by omega)]
        · rw [if_neg hs, if_neg hs]
    · rw [if_neg hw, if_neg hw]
theorem rEnd_fuel {ws : List Str} {i m : Nat} (hi : i ≤ ws.length) : ∀ {f : Nat}, ws.length + 1 - i ≤ f → rEnd ws f i m = rEnd ws (ws.length + 1 - i) i m := by
  intro f hf
  obtain ⟨k, rfl⟩ : ∃ k, f = ws.length + 1 - i + k := ⟨f - (ws.length + 1 - i), by omega⟩
  clear hf
  induction k with
  | zero => rfl
  | succ k ih => rw [← Nat.add_assoc, rEnd_more (by omega) hi, ih]
theorem cut1 (ws : List Str) (i : Nat) : cutV (ws.map V.str) (some ((i : Nat) : Int)) (some (((i : Nat) : Int) + 1)) = (if i < ws.length then [wAt ws i] else []).map V.str := by
  have e : (((i : Nat) : Int) + 1) = ((i + 1 : Nat) : Int) := by omega
  unfold cutV
  rw [e, List.length_map, HT.sIx_nat, HT.sIx_nat]
  by_cases h : i < ws.length
  · rw [if_pos h, Nat.min_eq_left (by omega), Nat.min_eq_left (by omega), show i + 1 - i = 1 by omega, ← List.map_drop, List.drop_eq_getElem_cons h, wAt_get h]
    rfl
  · rw [if_neg h, List.drop_eq_nil_of_le (by simp; omega), List.take_nil]
    rfl
theorem wds_flat : ∀ {us : List Str}, us ≠ [] → wds (Txt.join " " us) = us.flatMap wds := by
  intro us hu
  have hj : ∀ us : List Str, us ≠ [] → TL.joinL [32] (us.map TL.tl) = TL.joinL [32] ((us.flatMap wds).map TL.tl) ∧ us.flatMap wds ≠ [] := by
    intro us
    induction us with
    | nil => intro h; exact absurd rfl h
    | cons u r ih =>
      intro _
      have hw := wds_facts u
      have n1 : (wds u).map TL.tl ≠ [] := by simpa using hw.1
      cases r with
      | nil =>
        refine ⟨?_, by simpa using hw.1⟩
        rw [List.flatMap_cons, List.flatMap_nil, List.append_nil, hw.2.1]
        rfl
      | cons v s =>
        obtain ⟨h1, h2⟩ := ih (by simp)
        refine ⟨?_, by rw [List.flatMap_cons]; exact fun z => hw.1 (List.append_eq_nil_iff.mp z).1⟩
        rw [List.flatMap_cons, List.map_append, joinL_app _ _ _ n1 (by simpa using h2), hw.2.1, ← h1]
        rfl
  have e : Txt.join " " us = Txt.join " " (us.flatMap wds) := by
    refine str_ext ?_
    show TL.tl (Txt.join " " us) = TL.tl (Txt.join " " (us.flatMap wds))
    rw [TL.join_eq, TL.tl_join, TL.join_eq, TL.tl_join, show TL.tl " " = [32] by decide +kernel]
    exact (hj us hu).1
  rw [e]
  refine wds_join (hj us hu).2 fun p hp => ?_
  obtain ⟨u, _, hp⟩ := List.mem_flatMap.mp hp
  exact ((wds_facts u).2.2 p hp).1
/-- a page of at most N words, each a short one -/
def Pw (N : Nat) (z : Str) : Prop := (∀ w ∈ wds z, Pt 40 w) ∧ (wds z).length ≤ N
theorem Pw.mono {N M : Nat} {z : Str} (h : Pw N z) (hm : N ≤ M) : Pw M z := ⟨h.1, Nat.le_trans h.2 hm⟩
theorem join_wds' (z : Str) : Txt.join " " (wds z) = z := by
  refine str_ext ?_
  show TL.tl (Txt.join " " (wds z)) = z.cps.toList
  rw [TL.join_eq, TL.tl_join, show TL.tl " " = [32] by decide +kernel]
  exact (wds_facts z).2.1
theorem Pw.pt {N : Nat} {z : Str} (h : Pw N z) : Pt (41 * N) z := by
  have := pt_join (n := N) h.1 h.2
  rw [join_wds'] at this
  exact ⟨Nat.le_trans this.1 (by omega), this.2⟩
theorem wds_mem {z p : Str} (h : p ∈ wds z) : wds p = [p] := wds_one ((wds_facts z).2.2 p h).1
theorem flat_len {N : Nat} {ws : List Str} (h : ∀ w ∈ ws, wds w = [w]) : ws.flatMap wds = ws := by
  induction ws with
  | nil => rfl
  | cons a r ih => rw [List.flatMap_cons, h a List.mem_cons_self, ih fun w hw => h w (List.mem_cons_of_mem _ hw)]; rfl
theorem Pw.join {N : Nat} {us : List Str} (h1 : ∀ w ∈ us.flatMap wds, Pt 40 w) (h2 : (us.flatMap wds).length ≤ N) (hN : 1 ≤ N) : Pw N (Txt.join " " us) := by
  by_cases hu : us = []
  · subst hu
    have e : wds (Txt.join " " ([] : List Str)) = [("" : Str)] := by decide +kernel
    unfold Pw
    rw [e]
    exact ⟨fun w hw => by rw [List.mem_singleton.mp hw]; exact pt_of (by decide +kernel), hN⟩
  · unfold Pw
    rw [wds_flat hu]
    exact ⟨h1, h2⟩
theorem Pw.text {t : RT} (ok : t.ok) (hn : t.n ≤ 7) : Pw 46 (textT t) := by
  unfold Pw
  rw [wds_textT]
  exact ⟨tok_pt t ok, by have := toks_len t; omega⟩
theorem room65 {k : Nat} {A : Around} (r : Room k A) : A.units + 65 < cLine := by have := r.un; omega
def rMulSG : R2 := fun x y H Q => ∃ z n, x = .str z ∧ y = .int n ∧ 2 ≤ n ∧ n ≤ 1000 ∧ 1 ≤ z.length ∧ (z : Str).length ≤ 1000 ∧ Q (.str (repS z n.toNat)) H
theorem opMulSG {X : Cx} : OpR X (binaryOp .Mult) rMulSG := by
  intro pins s σ H x y v u Q I rx ry h
  obtain ⟨z, n, rfl, rfl, h1, h2, h3, h4, q⟩ := h
  obtain ⟨t, rfl⟩ := rx
  obtain ⟨t', rfl⟩ := ry
  have c1 : ¬ n < 1 := by omega
  have c2 : (n == 1 || z.length == 0) = false := by
    rw [show (n == 1) = false from beq_eq_false_iff_ne.mpr (by omega), show (z.length == 0) = false from beq_eq_false_iff_ne.mpr (by omega)]
    rfl
  refine P.mul_str (by rw [decide_eq_false (by omega), decide_eq_false (by omega)]; rfl) (fun _ _ => ?_) (fun _ _ => ?_) ?_
  · have : (1000 : Int) ≤ (2 ^ 63 - 1) / n := Int.le_ediv_of_mul_le (by omega) (by omega)
    omega
  · unfold PySem.Builtin.Str.tooLong
    obtain ⟨k, rfl⟩ : ∃ k : Nat, n = ((k : Nat) : Int) := ⟨n.toNat, by omega⟩
    refine decide_eq_false ?_
    rw [sizeLine_eq]
    have hk : k ≤ 1000 := by omega
    have hb : z.length * k ≤ 1000 * 1000 := Nat.mul_le_mul h4 hk
    have hb2 : k * z.length ≤ 1000 * 1000 := Nat.mul_le_mul hk h4
    first
      | omega
      | (simp only [Int.toNat_natCast]; omega)
      | (rw [← Int.natCast_mul]; omega)
  · rw [if_neg c1, c2, if_neg (by decide)]
    refine ⟨?_, ⟨.str (repS z n.toNat), H, I.tok _, ⟨_, rfl⟩, q⟩⟩
    show (repS z n.toNat).length ≤ sizeLine
    rw [repS_len, sizeLine_eq]
    have hk : n.toNat ≤ 1000 := by omega
    exact Nat.le_trans (Nat.mul_le_mul hk h4) (by decide)
theorem s_mulSG {z : Str} {n : Int} {H : Hp} {Q : VK} (h1 : 2 ≤ n) (h2 : n ≤ 1000) (hz : 1 ≤ z.length) (hz2 : z.length ≤ 1000) (h : Q (.str (repS z n.toNat)) H) : rMulSG (.str z) (.int n) H Q := ⟨z, n, rfl, rfl, h1, h2, hz, hz2, h⟩
theorem cut_to_ (xs : List V) (i : Nat) : cutV xs none (some ((i : Nat) : Int)) = xs.take i := by
  unfold cutV
  rw [HT.sIx_nat]
  show (xs.drop 0).take (min i xs.length - 0) = _
  rw [List.drop_zero, Nat.sub_zero]
  by_cases h : i ≤ xs.length
  · rw [Nat.min_eq_left h]
  · rw [Nat.min_eq_right (by omega), List.take_length, List.take_of_length_le (by omega)]
theorem cut_from_ (xs : List V) (i : Nat) : cutV xs (some ((i : Nat) : Int)) none = xs.drop i := by
  unfold cutV
  rw [HT.sIx_nat]
  show (xs.drop (min i xs.length)).take (xs.length - min i xs.length) = _
  by_cases h : i ≤ xs.length
  · rw [Nat.min_eq_left h, List.take_of_length_le (by simp)]
  · rw [Nat.min_eq_right (by omega), List.drop_length, List.take_nil, List.drop_of_length_le (by omega)]
theorem cut_mid_ (xs : List V) (i k : Nat) : cutV xs (some ((i : Nat) : Int)) (some (((i + k : Nat) : Int))) = (xs.drop i).take k := by
  unfold cutV
  rw [HT.sIx_nat, HT.sIx_nat]
  by_cases h : i ≤ xs.length
  · rw [Nat.min_eq_left h]
    by_cases h2 : i + k ≤ xs.length
    · rw [Nat.min_eq_left h2, Nat.add_sub_cancel_left]
    · rw [Nat.min_eq_right (by omega), List.take_of_length_le (by simp), List.take_of_length_le (by simp; omega)]
  · rw [Nat.min_eq_right (show xs.length ≤ i by omega), List.drop_length, List.take_nil, List.drop_of_length_le (by omega), List.take_nil]
def pwB (N : Nat) (z : Str) : Bool := (wds z).all (ptB 40) && decide ((wds z).length ≤ N)
theorem pw_of {N : Nat} {z : Str} (h : pwB N z = true) : Pw N z := by
  unfold pwB at h
  simp only [Bool.and_eq_true, decide_eq_true_eq] at h
  exact ⟨fun w hw => pt_of (List.all_eq_true.mp h.1 w hw), h.2⟩
end L3
end
section
local macro_rules | `(tactic| tm_at "s1") => `(tactic| first
  | with_reducible first
    | refine L3.s_seq ?_ | refine L3.s_asg ?_ | refine L3.s_op ?_ | refine L3.s_c ?_ | refine L3.s_cb ?_ | refine L3.s_cons ?_ | refine L3.s_nil ?_ | refine L3.s_test ?_ | refine L3.s_bl ?_
    | refine L3.s_I0 ?_ | refine L3.s_and ?_ | refine L3.s_or ?_ | refine L3.s_not ?_ | refine L3.s_if ?_ | refine L3.s_next ?_ | refine L3.s_ret ?_ | refine L3.s_retN ?_ | refine L3.s_asgS ?_ | refine L3.s_drop ?_
    | refine L3.s_un ?_ | refine L3.s_U ?_ | refine L3.s_int ?_ | refine L3.s_intB ?_ | refine L3.s_abs ?_ | refine L3.s_andV ?_ | refine L3.s_orV ?_ | refine L3.s_notV ?_ | refine L3.s_ifE ?_ | refine L3.s_call ?_ | refine L3.s_lst ?_ | refine L3.s_tup ?_ | refine L3.s_tB ?_
    | refine L3.s_addI ?_ | refine L3.s_inS ?_ | refine L3.s_ninS ?_ | refine L3.s_slice ?_ | refine L3.s_part ?_ | refine L3.s_partI ?_ | refine L3.s_nopart ?_ | refine L3.s_cI ?_ | refine L3.s_cB ?_ | refine L3.s_chain ?_ | refine L3.s_bm ?_ | refine L3.s_lcS ?_ | refine L3.s_lcR ?_ | refine L3.s_strE ?_
    | refine L2.iteT ?_ | refine L2.iteF ?_ | refine L3.iteNF ?_ | refine L3.iteNT ?_
    | refine L3.s_eqI ?_ | refine L3.s_neI ?_ | refine L3.s_eqS ?_ | refine L3.s_neS ?_
    | refine L3.s_pair ?_ | refine L3.s_pair2 ?_ | refine L3.s_fld ?_ | refine L3.s_make ?_ | refine L3.s_m1 ?_ | refine L3.s_isstr ?_
    | refine L3.s_xfV ?_ | refine L3.s_lstN ?_ | refine L3.s_callF ?_ | refine L3.s_lcL ?_ | refine L3.s_par3 ?_ | refine L3.s_trip ?_ | refine L3.s_asgT' ?_ | refine L3.s_gC ?_ | refine L3.s_gN ?_ | refine L3.s_fldG ?_ | refine L3.s_raise1 ?_ | refine L3.s_raise2 ?_ | refine L3.s_star ?_ | refine L3.s_mkCR ?_ | refine L3.s_lcZ ?_ | refine L3.s_forL ?_ | refine L3.s_forT ?_ | refine L3.s_gNm ?_ | refine L3.s_forE ?_ | refine L3.s_stC ?_ | refine L3.s_cmC ?_ | refine L3.s_forR1 ?_ | refine L3.s_lcTp ?_ | refine L3.s_forZ ?_ | refine L3.s_orT ?_ | refine L3.s_mt ?_ | refine L3.s_revT ?_ | refine L3.s_revL ?_ | refine L3.s_slOwn ?_ | refine L3.s_sl3 ?_ | refine L3.s_lcO ?_ | refine L3.s_stR ?_
    | refine L3.s_isN ?_ | refine L3.s_isB ?_ | refine L3.s_nisN ?_ | refine L3.s_nisB ?_
  | ((with_reducible refine' L3.s_var ?e ?_); (case e => rfl))
  | ((with_reducible refine' L3.s_aug ?e ?_); (case e => rfl))
  | ((with_reducible refine' L3.s_pow ?c ?_); (case c => exact ⟨by decide, by decide, by decide⟩)))
local macro_rules | `(tactic| tm_at "s") => `(tactic| repeat tm_at "s1")
namespace K49
open PySem PySem.NumText PySem.Spec PyProof.Rows L2 L3 LamX RZ ClX
abbrev s__law_is_number : Stmt := topS 47
abbrev names__law_is_number : List Str := ["_law_words", "_law_at_so", "_law_low", "_law_high", "_law_plain_here", "_law_sign"]
theorem sc__law_is_number : FnScope ["_law_words", "_law_at_so", "_law_low", "_law_high", "_law_plain_here", "_law_sign"] ["_law_words", "_law_at_so", "_law_low", "_law_high"] (defScope s__law_is_number) := ⟨rfl, rfl, rfl, by decide +kernel, rfl, by decide +kernel, by decide +kernel⟩
abbrev s__law_rule_end : Stmt := topS 48
theorem sc__law_rule_end : FnScope ["_law_words", "_law_at_so", "_law_many", "_law_wordy", "_law_first_so", "_law_second_so", "_law_bounds", "_law_k"] ["_law_words", "_law_at_so", "_law_many"] (defScope s__law_rule_end) := ⟨rfl, rfl, rfl, by decide +kernel, rfl, by decide +kernel, by decide +kernel⟩
abbrev s__law_due : Stmt := topS 49
theorem sc__law_due : FnScope ["_law_page", "_law_words", "_law_end"] ["_law_page"] (defScope s__law_due) := ⟨rfl, rfl, rfl, by decide +kernel, rfl, by decide +kernel, by decide +kernel⟩
section
variable {P : Program} {w : World} {K : PySem.W.Frag} {mg : Str → Option Value} {base : Heap} {C : RA} {CR0 CY CS CR CM CL CW : Addr}
def PtW (ws : List Str) : Prop := ∀ z ∈ ws, Pt 100000 z
theorem PtW.at {ws : List Str} (h : PtW ws) (i : Nat) : Pt 100000 (wAt ws i) := by
  by_cases hi : i < ws.length
  · rw [wAt_get hi]; exact h _ (List.getElem_mem hi)
  · rw [wAt_out (by omega)]; exact pt_of (by decide +kernel)
def spIsN : Sp := fun vs H Q _ => ∃ l ws, ∃ i : Nat, ∃ lo hi, vs = [.ref l, .int ((i : Nat) : Int), .int lo, .int hi] ∧ H l = some (.lst ((ws : List Str).map V.str)) ∧ PtW ws ∧ -(10 ^ 31) ≤ lo ∧ hi ≤ 10 ^ 31 ∧ ∀ H', Ex H H' → Q (.bl (numB (wAt ws i) lo hi)) H'
theorem at_ws {ws : List Str} {i : Nat} (h : i < ws.length) : atI (ws.map V.str) ((i : Nat) : Int) = some (.str (wAt ws i)) := by rw [wAt_get h]; exact at_w (List.getElem?_eq_getElem h)
theorem ok_isN {f : Addr} {fd : FuncData} (F : Fun K "_law_is_number" "_law_is_number" s__law_is_number f fd) (T : TxtR K mg C CR0 CY CS CR CM CL CW) : FnG P w K mg base CX0 1 f fd ["_law_words", "_law_at_so", "_law_low", "_law_high"] spIsN := by
  refine funG F sc__law_is_number (fun vs H Q E h => ?_) (fun cd A fr s H vs Q E hr hg h => ?_)
  · obtain ⟨l, ws, i, lo, hi, rfl, _⟩ := h; rfl
  · obtain ⟨l, ws, i, lo, hi, rfl, hl, hp, hlo, hhi, k⟩ := h
    refine ⟨_, (pss_cons (ps_if (pt_cmpR op_ge (pv 1) (pe_callB (KX.callLen (K := K)) (by rfl) T.b_len (by decide +kernel) (pa_cons (pv 0) pa_nil)) (nomark _)) (pss_one (ps_ret pe_bl)) pss_nil)
      (Evl.pss_cut (ps_set (i := 4) sc__law_is_number.nd rfl (Or.inl rfl) (pe_ifExp (pt_cmpR (KX.eqU (K := K) rfl hr.units) (pe_slice (KX.slU (K := K)) (pe_ix (KX.ixU (K := K)) (pv 0) (pv 1) (fun _ _ => rfl)) po_none (po_some pe_int)) pe_str (nomark _)) (pe_slice (KX.slU (K := K)) (pe_ix (KX.ixU (K := K)) (pv 0) (pv 1) (fun _ _ => rfl)) (po_some pe_int) po_none) (pe_ix (KX.ixU (K := K)) (pv 0) (pv 1) (fun _ _ => rfl))))
      (pss_cons (ps_if (PW.pt (pw_or (pt_cmpR (KX.eqU (K := K) rfl hr.units) (pv 4) pe_str (nomark _)) (pw_or (pt_cmpR op_gt (pe_callB (KX.callLen (K := K)) (by rfl) T.b_len (by decide +kernel) (pa_cons (pv 4) pa_nil)) pe_int (nomark _)) (pw_or1 (pt_cmpR (KX.neU (K := K) rfl hr.units) (pe_lc (own := [("_law_sign", 5)]) (g := gName 5) (by rfl) sc__law_is_number.nd (pi_str (pv 4)) (blkOk_by (own := [("_law_sign", 5)]) (N := names__law_is_number) (sc := defScope s__law_is_number) (by decide +kernel)) (fun _ _ _ _ _ => pg_name (i := 5) sc__law_is_number.nd rfl (Or.inl rfl)) (fun _ _ _ _ _ => pts_one (pt_cmpR (KX.opNotIn (K := K)) (pv 5) pe_str (by rfl))) (fun _ _ _ _ _ => (pv 5))) (pe_lst pa_nil) (nomark _)))))) (pss_one (ps_ret pe_bl)) pss_nil)
      (pss_one (ps_ret (pe_and (pe_cmpR (KX.eqU (K := K) rfl hr.units) (pe_callTy (KX.strV (K := K) rfl rfl) (by rfl) T.b_str (by decide +kernel) (pa_cons (pe_callTy (KX.callInt (K := K)) (by rfl) T.b_int (by decide +kernel) (pa_cons (pe_ix (KX.ixU (K := K)) (pv 0) (pv 1) (fun _ _ => rfl)) pa_nil)) pa_nil)) (pe_ix (KX.ixU (K := K)) (pv 0) (pv 1) (fun _ _ => rfl)) (nomark _)) (pe_one (pe_chain op_le op_le (pv 2) (pe_callTy (KX.callInt (K := K)) (by rfl) T.b_int (by decide +kernel) (pa_cons (pe_ix (KX.ixU (K := K)) (pv 0) (pv 1) (fun _ _ => rfl)) pa_nil)) (pv 3))))))))), ?_⟩
    tm_at "s"
    refine s_lenL hl ?_
    tm_at "s"
    rw [List.length_map]
    refine iteD (fun h => ?_) (fun h => ?_)
    · tm_at "s"
      have := k H (Ex.refl H)
      rw [wAt_out (by omega), numB_nil] at this
      exact this
    have hi2 : i < ws.length := by omega
    have hz := hp.at i
    have fin : ∀ b : Bool, numB (wAt ws i) lo hi = b → ∀ H1, Ex H H1 → Q (.bl b) H1 := fun b e => by rw [← e]; exact k
    have at0 := at_ws hi2
    generalize wAt ws i = z at hz fin at0
    have hzz : z.length ≤ sizeLine := Nat.le_of_lt (sz_of hz.1)
    tm_at "s"
    refine s_cut (M := fun σ' H' => σ' = [some (.ref l), some (.int ((i : Nat) : Int)), some (.int lo), some (.int hi), some (.str (figsOf z)), none] ∧ H' = H) ?_ ?_
    · tm_at "s"
      refine s_iL hl at0 ?_
      tm_at "s"
      refine s_slS hzz ?_
      tm_at "s"
      refine iteB (fun h1 => ?_) (fun h1 => ?_)
      · tm_at "s"
        refine s_iL hl at0 ?_
        tm_at "s"
        refine s_slS hzz ?_
        refine ⟨?_, rfl⟩
        unfold figsOf
        rw [if_pos h1]
        rfl
      · tm_at "s"
        refine s_iL hl at0 ?_
        refine ⟨?_, rfl⟩
        unfold figsOf
        rw [h1, if_neg (by decide)]
        rfl
    · rintro σ' H' ⟨rfl, rfl⟩
      have hf := figs_len z
      have hfp : ∀ c ∈ (figsOf z).cps.toList, c < 1114112 := fun c hc => hz.2 c (by
        unfold figsOf at hc
        split at hc
        · rw [cut_drop] at hc; exact List.mem_of_mem_drop hc
        · exact hc)
      tm_at "s"
      refine iteD (fun h1 => ?_) (fun h1 => ?_)
      · tm_at "s"
        refine fin false (numB_no ?_) _ (Ex.refl _)
        unfold figB
        rw [decide_eq_false (show ¬ 1 ≤ ((figsOf z).length : Int) by rw [h1]; decide)]; rfl
      have hne : (figsOf z).cps.toList ≠ [] := fun q => h1 (str_ext q)
      tm_at "s"
      refine s_lenS (Nat.le_trans hf hzz) ?_
      tm_at "s"
      refine iteD (fun h2 => ?_) (fun h2 => ?_)
      · tm_at "s"
        exact fin false (numB_long hlo hhi (by omega)) _ (Ex.refl _)
      tm_at "s"
      refine lcStr (fun c => !isDig c) (fun c => .str (oneS c)) (Nat.lt_of_le_of_lt hf (sz_of hz.1)) (fun _ => rfl) (fun c H' R h => ?_) (fun c H' R _ h => ?_) fun q H2 hq e2 h2' => ?_
      · tm_at "s"
        exact h
      · tm_at "s"
        exact h
      tm_at "s"
      refine s_new (Nat.le_of_lt (small1000 (by simp))) fun q3 H3 hq3 e3 h3 => ?_
      have hsub : ∀ c ∈ (figsOf z).cps.toList.filter fun c => !isDig c, c < 1114112 := fun c hm => hfp c (List.mem_filter.mp hm).1
      refine .inr (s_neD (.lst (.inl (.inl (e3 _ _ h2'))) (dpStrs _)) (.lst (.inl (.inl h3)) .nil) (shStrs hsub) rfl ?_)
      rw [eqv_nil', filt_empty]
      have e23 := e2.trans e3
      cases hd : (figsOf z).cps.toList.all isDig with
      | false =>
        tm_at "s"
        refine fin false (numB_no ?_) _ e23
        unfold figB
        rw [hd, Bool.and_false, Bool.false_and]
      | true =>
        have h4 : (figsOf z).length ≤ 40 := by omega
        have hy := numB_yes (lo := lo) (hi := hi) hne hd h4
        rw [hy] at fin
        have hz1 := figs_len1 z
        have hv : (valOf z).natAbs < 10 ^ 4300 := Nat.lt_of_lt_of_le (val_bound (k := 41) hd (by omega)) (Nat.pow_le_pow_right (by decide) (by decide))
        have rd : ∀ (H4 : Hp) (R : VK), R (.int (L3.valOf z)) H4 → rIntU K [.str z] H4 R := fun H4 R r => s_cF hne hd (by omega) hzz T.digits r
        have hl3 := e23 _ _ hl
        tm_at "s"
        refine s_iL hl3 at0 ?_
        tm_at "s"
        refine rd _ _ ?_
        tm_at "s"
        refine s_strVI T.digits hv ?_
        tm_at "s"
        refine s_iL hl3 at0 ?_
        tm_at "s"
        refine iteB (fun b1 => ?_) (fun b1 => ?_)
        · tm_at "s"
          refine s_iL hl3 at0 ?_
          tm_at "s"
          refine rd _ _ ?_
          tm_at "s"
          rw [b1, Bool.true_and] at fin
          refine iteB (fun b2 => ?_) (fun b2 => ?_)
          · tm_at "s"
            rw [b2, Bool.true_and] at fin
            exact fin _ rfl _ e23
          · tm_at "s"
            rw [b2, Bool.false_and] at fin
            exact fin _ rfl _ e23
        · tm_at "s"
          rw [b1, Bool.false_and] at fin
          exact fin _ rfl _ e23
def spREnd (f : Nat) : Sp := fun vs H Q _ => ∃ l ws, ∃ i m : Nat, vs = [.ref l, .int ((i : Nat) : Int), .int ((m : Nat) : Int)] ∧ H l = some (.lst ((ws : List Str).map V.str)) ∧ PtW ws ∧ ws.length ≤ 100000 ∧ i ≤ ws.length ∧ ws.length + 1 - i ≤ f ∧
  (∀ e, rEnd ws f i m = .error e → ∀ q H', Ex H H' → H' q = some (.lst [.int ((e : Nat) : Int)]) → Q (.ref q) H') ∧ (∀ j m', rEnd ws f i m = .ok (j, m') → ∀ q H', Ex H H' → H' q = some (.tup [.int ((j : Nat) : Int), .int ((m' : Nat) : Int)]) → Q (.ref q) H')
theorem eqv1 (a b : Str) : PyData.eqv (.list [.str a]) (.list [.str b]) = decide (a = b) := by
  simp only [PyData.eqv, PyData.eqvAll, Bool.and_true]
  by_cases h : a = b
  · rw [decide_eq_true h, h]; exact beq_self_eq_true b
  · rw [decide_eq_false h]; exact beq_eq_false_iff_ne.mpr h
def cutW (ws : List Str) (i : Nat) : List Str := if i < ws.length then [wAt ws i] else []
theorem dpW {H : Hp} : ∀ l : List Str, DpAll K H (l.map V.str) (l.map PyData.str)
  | [] => .nil
  | _ :: r => .cons (.str _) (dpW r)
theorem strOk_pt {m : Nat} {z : Str} (h : Pt m z) : PyData.strOk z = true := by
  unfold PyData.strOk
  simp
  exact fun i hi => h.2 _ (Array.mem_toList_iff.mpr (Array.getElem_mem hi))
theorem shW {ws : List Str} (h : PtW ws) (i : Nat) : SeqAt.shaped (.list ((cutW ws i).map PyData.str)) = true := by
  unfold cutW
  split
  · have := strOk_pt (h.at i)
    unfold SeqAt.shaped
    simp only [List.map_cons, List.map_nil, PyData.canLay0, PyData.canLayAll0, this, PyData.depth, PyData.depthAll]
    decide
  · rfl
theorem eqvW {ws : List Str} {i : Nat} {x : Str} (hx : x ≠ "") : PyData.eqv (.list ((cutW ws i).map PyData.str)) (.list [.str x]) = decide (wAt ws i = x) := by
  unfold cutW
  split
  · exact eqv1 _ _
  · rename_i h
    rw [wAt_out (by omega), decide_eq_false (fun z => hx z.symm)]
    rfl
theorem eqvW' {ws : List Str} {i : Nat} {x : Str} (hx : x ≠ "") : PyData.eqv (.list [.str x]) (.list ((cutW ws i).map PyData.str)) = decide (wAt ws i = x) := by
  unfold cutW
  split
  · rw [List.map_cons, List.map_nil, eqv1]
    exact decide_eq_decide.mpr ⟨Eq.symm, Eq.symm⟩
  · rename_i h
    rw [wAt_out (by omega), decide_eq_false (fun z => hx z.symm)]
    rfl
theorem isiL {H : Hp} {l : Addr} {xs : List V} (h : H l = some (.lst xs)) : TyX K H (.ref l) (.type "list") := .base (.lst h)
theorem isiT {H : Hp} {l : Addr} {xs : List V} (h : H l = some (.tup xs)) : TyX K H (.ref l) (.type "tuple") := .base (.tup h)
theorem inv_first (z : Str) : inV (.str z) [.str "fixed", .str "divided"] = decide (z = "fixed" ∨ z = "divided") := by
  by_cases h1 : z = "fixed"
  · subst h1; decide +kernel
  · by_cases h2 : z = "divided"
    · subst h2; decide +kernel
    · rw [decide_eq_false (fun h => h.elim h1 h2)]
      unfold inV
      simp [eqV]
      exact ⟨fun q => h1 q.symm, fun q => h2 q.symm⟩
theorem ok_rend {f : Addr} {fd : FuncData} (F : Fun K "_law_rule_end" "_law_rule_end" s__law_rule_end f fd) (T : TxtR K mg C CR0 CY CS CR CM CL CW) (m : Nat) (c__law_is_number : Fn P w K mg base CX0 1 "_law_is_number" ["_law_words", "_law_at_so", "_law_low", "_law_high"] spIsN) (c__law_rule_end : Fn P w K mg base CX0 (m + 1) "_law_rule_end" ["_law_words", "_law_at_so", "_law_many"] (spREnd m)) :
    FnG P w K mg base CX0 (m + 2) f fd ["_law_words", "_law_at_so", "_law_many"] (spREnd (m + 1)) := by
  refine funG F sc__law_rule_end (fun vs H Q E h => ?_) (fun cd A fr s H vs Q E hr hg h => ?_)
  · obtain ⟨l, ws, i, n, rfl, _⟩ := h; rfl
  · obtain ⟨l, ws, i, n, rfl, hl, hp, hn, hi, hf, kE, kO⟩ := h
    rw [show rEnd ws (m + 1) i n = (if wAt ws i = "(" then
      match rEnd ws m (i + 1) n with
      | .error e => .error e
      | .ok (i, n) =>
        if wAt ws i = "&" ∨ wAt ws i = "|" then
          match rEnd ws m (i + 1) n with
          | .error e => .error e
          | .ok (j, m') => if wAt ws j = ")" then .ok (j + 1, m') else .error j
        else .error i
    else match bnds (wAt ws i) with
      | none => .error i
      | some b => if n = 6 then .error i else
        match numsE ws (i + 1) b with
        | .error e => .error e
        | .ok j => .ok (j, n + 1)) from rfl] at kE kO
    refine ⟨_, (pss_cons (ps_set (i := 3) sc__law_rule_end.nd rfl (Or.inl rfl) (pe_ifExp (pt_cmpR op_lt (pv 1) (pe_callB (KX.callLen (K := K)) (by rfl) T.b_len (by decide +kernel) (pa_cons (pv 0) pa_nil)) (nomark _)) (pe_ix (KX.ixU (K := K)) (pv 0) (pv 1) (fun _ _ => rfl)) pe_str))
      (pss_cons (ps_if (pt_cmpR (KX.eqU (K := K) rfl hr.units) (pv 3) pe_str (nomark _)) (pss_cons (ps_set (i := 4) sc__law_rule_end.nd rfl (Or.inl rfl) (pe_f (hk := by omega) c__law_rule_end hr hg pass0 (pa_cons (pv 0) (pa_cons (pe_op opAdd (pv 1) pe_int) (pa_cons (pv 2) pa_nil)))))
      (pss_cons (ps_if (pt_val (pe_callB (KX.callIsi (K := K)) (by rfl) T.b_isinstance (by decide +kernel) (pa_cons (pv 4) (pa_cons (pe_bltn (v := .ty "list") (u := .type "list") (by rfl) T.b_list (by decide +kernel) rfl) pa_nil)))) (pss_one (ps_ret (pv 4))) pss_nil)
      (pss_cons (ps_if (pt_cmpR (KX.notInTD (K := K) rfl (room65 hr)) (pe_slice (KX.slU (K := K)) (pv 0) (po_some (pe_ix (KX.ixU (K := K)) (pv 4) pe_int (fun _ _ => rfl))) (po_some (pe_op opAdd (pe_ix (KX.ixU (K := K)) (pv 4) pe_int (fun _ _ => rfl)) pe_int))) (pe_tup (pa_cons (pe_lst (pa_cons pe_str pa_nil)) (pa_cons (pe_lst (pa_cons pe_str pa_nil)) pa_nil))) (by rfl)) (pss_one (ps_ret (pe_lst (pa_cons (pe_ix (KX.ixU (K := K)) (pv 4) pe_int (fun _ _ => rfl)) pa_nil)))) pss_nil)
      (pss_cons (ps_set (i := 5) sc__law_rule_end.nd rfl (Or.inl rfl) (pe_f (hk := by omega) c__law_rule_end hr hg pass0 (pa_cons (pv 0) (pa_cons (pe_op opAdd (pe_ix (KX.ixU (K := K)) (pv 4) pe_int (fun _ _ => rfl)) pe_int) (pa_cons (pe_ix (KX.ixU (K := K)) (pv 4) pe_int (fun _ _ => rfl)) pa_nil)))))
      (pss_cons (ps_if (pt_val (pe_callB (KX.callIsi (K := K)) (by rfl) T.b_isinstance (by decide +kernel) (pa_cons (pv 5) (pa_cons (pe_bltn (v := .ty "list") (u := .type "list") (by rfl) T.b_list (by decide +kernel) rfl) pa_nil)))) (pss_one (ps_ret (pv 5))) pss_nil)
      (pss_one (ps_ret (pe_ifExp (pt_cmpR (KX.eqU (K := K) rfl hr.units) (pe_slice (KX.slU (K := K)) (pv 0) (po_some (pe_ix (KX.ixU (K := K)) (pv 5) pe_int (fun _ _ => rfl))) (po_some (pe_op opAdd (pe_ix (KX.ixU (K := K)) (pv 5) pe_int (fun _ _ => rfl)) pe_int))) (pe_lst (pa_cons pe_str pa_nil)) (nomark _)) (pe_tup (pa_cons (pe_op opAdd (pe_ix (KX.ixU (K := K)) (pv 5) pe_int (fun _ _ => rfl)) pe_int) (pa_cons (pe_ix (KX.ixU (K := K)) (pv 5) pe_int (fun _ _ => rfl)) pa_nil))) (pe_lst (pa_cons (pe_ix (KX.ixU (K := K)) (pv 5) pe_int (fun _ _ => rfl)) pa_nil)))))))))) pss_nil)
      (pss_cons (ps_if (PW.pt (pw_or (pt_cmpR (KX.opNotIn (K := K)) (pv 3) (pe_tup (pa_cons pe_str (pa_cons pe_str pa_nil))) (by rfl)) (pw_or1 (pt_cmpR (KX.eqU (K := K) rfl hr.units) (pv 2) pe_int (nomark _))))) (pss_one (ps_ret (pe_lst (pa_cons (pv 1) pa_nil)))) pss_nil)
      (Evl.pss_cut (ps_set (i := 6) sc__law_rule_end.nd rfl (Or.inl rfl) (pe_ifExp (pt_cmpR (KX.eqU (K := K) rfl hr.units) (pv 3) pe_str (nomark _)) (pe_lst (pa_cons (pe_tup (pa_cons pe_int (pa_cons (pe_op op_pow pe_int pe_int) pa_nil))) pa_nil)) (pe_lst (pa_cons (pe_tup (pa_cons pe_int (pa_cons pe_int pa_nil))) (pa_cons (pe_tup (pa_cons (pe_un un_neg pe_int) (pa_cons pe_int pa_nil))) (pa_cons (pe_tup (pa_cons pe_int (pa_cons pe_int pa_nil))) pa_nil))))))
      (pss_cons (ps_for (passes_of rfl) rfl (pi_range1 (by rfl) T.b_range (pa_cons (pe_callB (KX.callLen (K := K)) (by rfl) T.b_len (by decide +kernel) (pa_cons (pv 6) pa_nil)) pa_nil)) (pg_name (i := 7) sc__law_rule_end.nd rfl (Or.inl rfl)) (pss_one (ps_if (pt_not (pt_val (pe_f (hk := by omega) c__law_is_number hr hg pass0 (pa_cons (pv 0) (pa_cons (pe_op opAdd (pe_op opAdd (pv 1) pe_int) (pv 7)) (pa_cons (pe_ix (KX.ixU (K := K)) (pe_ix (KX.ixU (K := K)) (pv 6) (pv 7) (fun _ _ => rfl)) pe_int (fun _ _ => rfl)) (pa_cons (pe_ix (KX.ixU (K := K)) (pe_ix (KX.ixU (K := K)) (pv 6) (pv 7) (fun _ _ => rfl)) pe_int (fun _ _ => rfl)) pa_nil))))))) (pss_one (ps_ret (pe_lst (pa_cons (pe_op opAdd (pe_op opAdd (pv 1) pe_int) (pv 7)) pa_nil)))) pss_nil)))
      (pss_one (ps_ret (pe_tup (pa_cons (pe_op opAdd (pe_op opAdd (pv 1) pe_int) (pe_callB (KX.callLen (K := K)) (by rfl) T.b_len (by decide +kernel) (pa_cons (pv 6) pa_nil))) (pa_cons (pe_op opAdd (pv 2) pe_int) pa_nil)))))))))), ?_⟩
    tm_at "s"
    refine s_lenL hl ?_
    tm_at "s"
    rw [List.length_map]
    have word : ∀ R : VK, R (.str (wAt ws i)) H → (if decide (((i : Nat) : Int) < ((ws.length : Nat) : Int)) = true then tOp (rIxU K) (tVar 0) (tVar 1) [some (.ref l), some (.int ((i : Nat) : Int)), some (.int ((n : Nat) : Int)), none, none, none, none, none] H R else tC (V.str "") [some (.ref l), some (.int ((i : Nat) : Int)), some (.int ((n : Nat) : Int)), none, none, none, none, none] H R) := fun R r => by
      refine iteD (fun h => ?_) (fun h => ?_)
      · tm_at "s"
        exact s_iL hl (at_ws (by omega)) r
      · rw [wAt_out (by omega)] at r
        exact r
    refine word _ ?_
    clear word
    try dsimp only
    tm_at "s"
    refine iteD (fun hw => ?_) (fun hw => ?_)
    · rw [if_pos hw] at kE kO
      have hil := wAt_lt (ws := ws) (i := i) (by rw [hw]; decide)
      tm_at "s"
      rw [show (((i : Nat) : Int) + 1) = ((i + 1 : Nat) : Int) by omega]
      refine ⟨l, ws, i + 1, n, rfl, hl, hp, hn, by omega, by omega, fun e he q H1 e1 h1 => ?_, fun j m' he q H1 e1 h1 => ?_⟩
      · rw [he] at kE
        tm_at "s"
        refine s_isiT (.x (isiL h1)) (b := true) (kit_ty (by decide +kernel)) ?_
        tm_at "s"
        exact kE e rfl q H1 e1 h1
      rw [he] at kE kO
      dsimp only at kE kO
      have hj := rEnd_ok he
      tm_at "s"
      refine s_isiT (.x (isiT h1)) (b := false) (kit_ty (by decide +kernel)) ?_
      tm_at "s"
      refine s_iT h1 rfl ?_
      tm_at "s"
      refine s_iT h1 rfl ?_
      tm_at "s"
      refine s_slL (.inl (.inl (e1 _ _ hl))) fun p2 H2 n2 e2 h2 => ?_
      rw [cut1] at h2
      tm_at "s"
      refine s_new (Nat.le_of_lt (small1000 (by simp))) fun a1 H3 n3 e3 h3 => ?_
      tm_at "s"
      refine s_new (Nat.le_of_lt (small1000 (by simp))) fun a2 H4 n4 e4 h4 => ?_
      tm_at "s"
      refine s_new (Nat.le_of_lt (small1000 (by simp))) fun a3 H5 n5 e5 h5 => ?_
      have E5 := e1.trans (e2.trans (e3.trans (e4.trans e5)))
      refine ⟨.list ((cutW ws j).map PyData.str), [.list [.str "&"], .list [.str "|"]], .lst (.inl (.inl (e5 _ _ (e4 _ _ (e3 _ _ h2))))) (dpW _), .tup (.inl (.inl h5)) (.cons (.lst (.inl (.inl (e5 _ _ (e4 _ _ h3)))) (.cons (.str _) .nil)) (.cons (.lst (.inl (.inl (e5 _ _ h4))) (.cons (.str _) .nil)) .nil)), shW hp j, by decide +kernel, ?_⟩
      rw [List.any_cons, List.any_cons, List.any_nil, eqvW' (by decide), eqvW' (by decide), Bool.or_false, ← Bool.decide_or]
      tm_at "s"
      refine iteND (fun hs => ?_) (fun hs => ?_)
      · rw [if_neg hs] at kE
        tm_at "s"
        refine s_iT ((e2.trans (e3.trans (e4.trans e5))) _ _ h1) rfl ?_
        tm_at "s"
        exact s_new (Nat.le_of_lt (small1000 (by simp))) fun a4 H6 n6 e6 h6 => kE j rfl a4 H6 (E5.trans e6) h6
      rw [if_pos hs] at kE kO
      have h15 := (e2.trans (e3.trans (e4.trans e5))) _ _ h1
      have hil2 := wAt_lt (ws := ws) (i := j) (by rcases hs with q | q <;> rw [q] <;> decide)
      clear n2 n3 n4 n5 h2 h3 h4 h5
      tm_at "s"
      refine s_iT h15 rfl ?_
      tm_at "s"
      refine s_iT h15 rfl ?_
      tm_at "s"
      rw [show (((j : Nat) : Int) + 1) = ((j + 1 : Nat) : Int) by omega]
      refine ⟨l, ws, j + 1, m', rfl, E5 _ _ hl, hp, hn, by omega, by omega, fun e he2 q2 H6 e6 h6 => ?_, fun j2 m2 he2 q2 H6 e6 h6 => ?_⟩
      · rw [he2] at kE
        tm_at "s"
        refine s_isiT (.x (isiL h6)) (b := true) (kit_ty (by decide +kernel)) ?_
        tm_at "s"
        exact kE e rfl q2 H6 (E5.trans e6) h6
      rw [he2] at kE kO
      dsimp only at kE kO
      have E6 := E5.trans e6
      tm_at "s"
      refine s_isiT (.x (isiT h6)) (b := false) (kit_ty (by decide +kernel)) ?_
      tm_at "s"
      refine s_iT h6 rfl ?_
      tm_at "s"
      refine s_iT h6 rfl ?_
      tm_at "s"
      refine s_slL (.inl (.inl (E6 _ _ hl))) fun p7 H7 n7 e7 h7 => ?_
      rw [cut1] at h7
      tm_at "s"
      refine s_new (Nat.le_of_lt (small1000 (by simp))) fun a8 H8 n8 e8 h8 => ?_
      refine .inr (s_eqD (.lst (.inl (.inl (e8 _ _ h7))) (dpW (cutW ws j2))) (.lst (.inl (.inl h8)) (.cons (.str _) .nil)) (shW hp j2) (by decide +kernel) ?_)
      rw [eqvW (by decide)]
      have E8 := E6.trans (e7.trans e8)
      have h68 := (e7.trans e8) _ _ h6
      tm_at "s"
      refine iteD (fun hc => ?_) (fun hc => ?_)
      · rw [if_pos hc] at kO
        tm_at "s"
        refine s_iT h68 rfl ?_
        tm_at "s"
        refine s_iT h68 rfl ?_
        tm_at "s"
        exact s_new (Nat.le_of_lt (small1000 (by simp))) fun a9 H9 n9 e9 h9 => kO (j2 + 1) m2 rfl a9 H9 (E8.trans e9) h9
      · rw [if_neg hc] at kE
        tm_at "s"
        refine s_iT h68 rfl ?_
        tm_at "s"
        exact s_new (Nat.le_of_lt (small1000 (by simp))) fun a9 H9 n9 e9 h9 => kE j2 rfl a9 H9 (E8.trans e9) h9
    · rw [if_neg hw] at kE kO
      tm_at "s"
      refine s_new (Nat.le_of_lt (small1000 (by simp))) fun a1 H1 n1 e1 h1 => ?_
      refine s_ninT (.inl (.inl h1)) rfl rfl ?_
      rw [inv_first]
      tm_at "s"
      refine iteND (fun hs => ?_) (fun hs => ?_)
      · have hb : bnds (wAt ws i) = none := by
          unfold bnds
          rw [if_neg (fun q => hs (.inl q)), if_neg (fun q => hs (.inr q))]
        rw [hb] at kE
        tm_at "s"
        exact s_new (Nat.le_of_lt (small1000 (by simp))) fun a4 H6 n6 e6 h6 => kE i rfl a4 H6 (e1.trans e6) h6
      obtain ⟨bs, hb⟩ : ∃ bs, bnds (wAt ws i) = some bs := by
        unfold bnds
        rcases hs with hs | hs
        · rw [if_pos hs]; exact ⟨_, rfl⟩
        · by_cases h0 : wAt ws i = "fixed"
          · rw [if_pos h0]; exact ⟨_, rfl⟩
          · rw [if_neg h0, if_pos hs]; exact ⟨_, rfl⟩
      rw [hb] at kE kO
      dsimp only at kE kO
      tm_at "s"
      refine iteD (fun h6 => ?_) (fun h6 => ?_)
      · rw [if_pos (show n = 6 by omega)] at kE
        tm_at "s"
        exact s_new (Nat.le_of_lt (small1000 (by simp))) fun a4 H6 n6 e6 h6 => kE i rfl a4 H6 (e1.trans e6) h6
      rw [if_neg (show n ≠ 6 by omega)] at kE kO
      have hbl : ∀ b ∈ bs, -(10 ^ 31) ≤ b.1 ∧ b.2 ≤ 10 ^ 31 := by
        unfold bnds at hb
        split at hb
        · cases hb; intro b hm; rw [List.mem_singleton.mp hm]; exact ⟨by decide, by decide⟩
        · split at hb
          · cases hb
            intro b hm
            simp only [List.mem_cons, List.not_mem_nil, or_false] at hm
            rcases hm with rfl | rfl | rfl <;> exact ⟨by decide, by decide⟩
          · cases hb
      have hb3 := bnds_ne hb
      tm_at "s"
      refine s_cut (M := fun σ' H' => ∃ bl us, σ' = [some (.ref l), some (.int ((i : Nat) : Int)), some (.int ((n : Nat) : Int)), some (.str (wAt ws i)), none, none, some (.ref bl), none] ∧ Ex H1 H' ∧ H' bl = some (.lst us) ∧ BdAll H' bs us) ?_ ?_
      · tm_at "s"
        refine iteD (fun h1 => ?_) (fun h1 => ?_)
        · have hbs : bs = [(1, 10 ^ 30)] := by
            unfold bnds at hb
            rw [if_pos h1] at hb
            cases hb; rfl
          subst hbs
          tm_at "s"
          refine s_new (Nat.le_of_lt (small1000 (by simp))) fun t1 H2 n2 e2 h2 => ?_
          tm_at "s"
          refine s_new (Nat.le_of_lt (small1000 (by simp))) fun t2 H3 n3 e3 h3 => ?_
          exact ⟨t2, _, rfl, e2.trans e3, h3, ⟨t1, rfl, e3 _ _ h2⟩, trivial⟩
        · have hbs : bs = [(0, 24), (-1000, 1000), (1, 24)] := by
            unfold bnds at hb
            rw [if_neg h1, if_pos (hs.resolve_left h1)] at hb
            cases hb; rfl
          subst hbs
          tm_at "s"
          refine s_new (Nat.le_of_lt (small1000 (by simp))) fun t1 H2 n2 e2 h2 => ?_
          tm_at "s"
          refine s_new (Nat.le_of_lt (small1000 (by simp))) fun t2 H3 n3 e3 h3 => ?_
          tm_at "s"
          refine s_new (Nat.le_of_lt (small1000 (by simp))) fun t3 H4 n4 e4 h4 => ?_
          tm_at "s"
          refine s_new (Nat.le_of_lt (small1000 (by simp))) fun t4 H5 n5 e5 h5 => ?_
          exact ⟨t4, _, rfl, e2.trans (e3.trans (e4.trans e5)), h5, ⟨t1, rfl, e5 _ _ (e4 _ _ (e3 _ _ h2))⟩, ⟨t2, rfl, e5 _ _ (e4 _ _ h3)⟩, ⟨t3, rfl, e5 _ _ h4⟩, trivial⟩
      · rintro _ H2 ⟨bl, us, rfl, e2, h2, hbs⟩
        have hlen := hbs.len
        tm_at "s"
        refine s_lenL h2 ?_
        tm_at "s"
        rw [hlen]
        refine ⟨by omega, by omega, ?_⟩
        rw [Int.toNat_natCast]
        refine forRg (fun k σ H' => (∃ v7, σ = [some (.ref l), some (.int ((i : Nat) : Int)), some (.int ((n : Nat) : Int)), some (.str (wAt ws i)), none, none, some (.ref bl), v7]) ∧ Ex H2 H' ∧ numsE ws (i + 1 + k) (bs.drop k) = numsE ws (i + 1) bs) ⟨⟨_, rfl⟩, Ex.refl _, rfl⟩ ?_ ?_
        · rintro k _ H3 hk ⟨⟨v7, rfl⟩, e3, hq⟩
          have hus : us[k]? = some us[k] := List.getElem?_eq_getElem (by omega)
          obtain ⟨b, hb1, p, hp1, hp2⟩ := (hbs.ex e3).get hus
          rw [hp1] at hus
          have hbb := hbl b (List.mem_of_getElem? hb1)
          have hE := e1.trans (e2.trans e3)
          refine s_gNm ?_
          try dsimp only
          tm_at "s"
          have hik : (((i : Nat) : Int) + 1 + (0 + ((k : Nat) : Int))) = ((i + 1 + k : Nat) : Int) := by omega
          have hz : (0 + ((k : Nat) : Int)) = ((k : Nat) : Int) := by omega
          rw [hik]
          try rw [hz]
          refine s_iL (e3 _ _ h2) (L3.atI_nat hus) ?_
          tm_at "s"
          refine s_iT hp2 rfl ?_
          tm_at "s"
          refine s_iL (e3 _ _ h2) (L3.atI_nat hus) ?_
          tm_at "s"
          refine s_iT hp2 rfl ?_
          tm_at "s"
          refine ⟨l, ws, i + 1 + k, _, _, rfl, hE _ _ hl, hp, hbb.1, hbb.2, fun H4 e4 => ?_⟩
          have hd := nums_drop (ws := ws) (i := i + 1) hb1
          tm_at "s"
          refine iteB (fun hn' => ?_) (fun hn' => ?_)
          · have hn' : numB (wAt ws (i + 1 + k)) b.1 b.2 = false := by simpa using hn'
            rw [if_neg (by rw [hn']; decide)] at hd
            rw [← hq, hd] at kE
            tm_at "s"
            try rw [hik]
            exact s_new (Nat.le_of_lt (small1000 (by simp))) fun a4 H6 n6 e6 h6 => kE _ rfl a4 H6 (hE.trans (e4.trans e6)) h6
          · have hn' : numB (wAt ws (i + 1 + k)) b.1 b.2 = true := by simpa using hn'
            rw [if_pos hn'] at hd
            tm_at "s"
            exact ⟨⟨_, rfl⟩, e3.trans e4, by rw [← hd, hq]⟩
        · rintro _ H3 ⟨⟨v7, rfl⟩, e3, hq⟩
          try dsimp only
          tm_at "s"
          refine s_lenL (e3 _ _ h2) ?_
          tm_at "s"
          rw [hlen, List.drop_length] at *
          rw [← hq] at kO
          exact s_new (Nat.le_of_lt (small1000 (by simp))) fun a4 H6 n6 e6 h6 => kO _ _ rfl a4 H6 (e1.trans (e2.trans (e3.trans e6))) h6
def spDue (N : Nat) : Sp := fun vs H Q _ => ∃ z, vs = [.str z] ∧ Pw N z ∧ N ≤ 1000 ∧ (∀ e, rdR z = .error e → ∀ H', Ex H H' → Q (.int ((e : Nat) : Int)) H') ∧ (rdR z = .ok () → ∀ H', Ex H H' → Q .non H')
theorem ok_due {f : Addr} {fd : FuncData} (F : Fun K "_law_due" "_law_due" s__law_due f fd) (T : TxtR K mg C CR0 CY CS CR CM CL CW) (N k0 : Nat) (hN : N + 1 ≤ k0) (c__law_rule_end : Fn P w K mg base CX0 (k0 + 1) "_law_rule_end" ["_law_words", "_law_at_so", "_law_many"] (spREnd k0)) :
    FnG P w K mg base CX0 (k0 + 2) f fd ["_law_page"] (spDue N) := by
  refine funG F sc__law_due (fun vs H Q E h => ?_) (fun cd A fr s H vs Q E hr hg h => ?_)
  · obtain ⟨z, rfl, _⟩ := h; rfl
  · obtain ⟨z, rfl, hz, hN2, kE, kO⟩ := h
    refine ⟨_, (pss_cons (ps_set (i := 1) sc__law_due.nd rfl (Or.inl rfl) (pe_split (pv 0) pe_str))
      (pss_cons (ps_set (i := 2) sc__law_due.nd rfl (Or.inl rfl) (pe_f (hk := by omega) c__law_rule_end hr hg pass0 (pa_cons (pv 1) (pa_cons pe_int (pa_cons pe_int pa_nil)))))
      (pss_cons (ps_if (pt_val (pe_callB (KX.callIsi (K := K)) (by rfl) T.b_isinstance (by decide +kernel) (pa_cons (pv 2) (pa_cons (pe_bltn (v := .ty "list") (u := .type "list") (by rfl) T.b_list (by decide +kernel) rfl) pa_nil)))) (pss_one (ps_ret (pe_ix (KX.ixU (K := K)) (pv 2) pe_int (fun _ _ => rfl)))) pss_nil)
      (pss_one (ps_ret (pe_ifExp (pt_cmpR op_lt (pe_ix (KX.ixU (K := K)) (pv 2) pe_int (fun _ _ => rfl)) (pe_callB (KX.callLen (K := K)) (by rfl) T.b_len (by decide +kernel) (pa_cons (pv 1) pa_nil)) (nomark _)) (pe_ix (KX.ixU (K := K)) (pv 2) pe_int (fun _ _ => rfl)) pe_non)))))), ?_⟩
    have hpt := hz.pt
    have hzl : z.length ≤ 41000 := Nat.le_trans hpt.1 (by omega)
    tm_at "s"
    refine s_splitW (by omega) fun l H1 n1 e1 h1 => ?_
    obtain ⟨hz1, hz2⟩ := hz
    unfold rdR ruleEnd at kE kO
    have hf2 : rEnd (wds z) ((wds z).length + 1) 0 0 = rEnd (wds z) k0 0 0 := by
      have := rEnd_fuel (ws := wds z) (i := 0) (m := 0) (Nat.zero_le _) (f := k0) (by omega)
      rw [Nat.sub_zero] at this
      exact this.symm
    rw [hf2] at kE kO
    try dsimp only
    tm_at "s"
    refine ⟨l, wds z, 0, 0, rfl, h1, fun y hy => ⟨Nat.le_trans (hz1 y hy).1 (by decide), (hz1 y hy).2⟩, by omega, by omega, by omega, fun e he q H2 e2 h2 => ?_, fun j m' he q H2 e2 h2 => ?_⟩
    · rw [he] at kE
      tm_at "s"
      refine s_isiT (.x (isiL h2)) (b := true) (kit_ty (by decide +kernel)) ?_
      tm_at "s"
      refine s_iL h2 rfl ?_
      exact kE e rfl _ (e1.trans e2)
    · rw [he] at kE kO
      dsimp only at kE kO
      tm_at "s"
      refine s_isiT (.x (isiT h2)) (b := false) (kit_ty (by decide +kernel)) ?_
      tm_at "s"
      refine s_iT h2 rfl ?_
      tm_at "s"
      refine s_lenL (e2 _ _ h1) ?_
      tm_at "s"
      rw [List.length_map]
      refine iteD (fun h => ?_) (fun h => ?_)
      · rw [if_pos (show j < (wds z).length by omega)] at kE
        tm_at "s"
        refine s_iT h2 rfl ?_
        exact kE j rfl _ (e1.trans e2)
      · rw [if_neg (show ¬ j < (wds z).length by omega)] at kO
        tm_at "s"
        exact kO rfl _ (e1.trans e2)
end
end K49
end
section
local macro_rules | `(tactic| tm_at "s1") => `(tactic| first
  | with_reducible first
    | refine L3.s_seq ?_ | refine L3.s_asg ?_ | refine L3.s_op ?_ | refine L3.s_c ?_ | refine L3.s_cb ?_ | refine L3.s_cons ?_ | refine L3.s_nil ?_ | refine L3.s_test ?_ | refine L3.s_bl ?_
    | refine L3.s_I0 ?_ | refine L3.s_and ?_ | refine L3.s_or ?_ | refine L3.s_not ?_ | refine L3.s_if ?_ | refine L3.s_next ?_ | refine L3.s_ret ?_ | refine L3.s_retN ?_ | refine L3.s_asgS ?_ | refine L3.s_drop ?_
    | refine L3.s_un ?_ | refine L3.s_U ?_ | refine L3.s_int ?_ | refine L3.s_intB ?_ | refine L3.s_abs ?_ | refine L3.s_andV ?_ | refine L3.s_orV ?_ | refine L3.s_notV ?_ | refine L3.s_ifE ?_ | refine L3.s_call ?_ | refine L3.s_lst ?_ | refine L3.s_tup ?_ | refine L3.s_tB ?_
    | refine L3.s_addI ?_ | refine L3.s_inS ?_ | refine L3.s_ninS ?_ | refine L3.s_slice ?_ | refine L3.s_part ?_ | refine L3.s_partI ?_ | refine L3.s_nopart ?_ | refine L3.s_cI ?_ | refine L3.s_cB ?_ | refine L3.s_chain ?_ | refine L3.s_bm ?_ | refine L3.s_lcS ?_ | refine L3.s_lcR ?_ | refine L3.s_strE ?_
    | refine L2.iteT ?_ | refine L2.iteF ?_ | refine L3.iteNF ?_ | refine L3.iteNT ?_
    | refine L3.s_eqI ?_ | refine L3.s_neI ?_ | refine L3.s_eqS ?_ | refine L3.s_neS ?_
    | refine L3.s_pair ?_ | refine L3.s_pair2 ?_ | refine L3.s_fld ?_ | refine L3.s_make ?_ | refine L3.s_m1 ?_ | refine L3.s_isstr ?_
    | refine L3.s_xfV ?_ | refine L3.s_lstN ?_ | refine L3.s_callF ?_ | refine L3.s_lcL ?_ | refine L3.s_par3 ?_ | refine L3.s_trip ?_ | refine L3.s_asgT' ?_ | refine L3.s_gC ?_ | refine L3.s_gN ?_ | refine L3.s_fldG ?_ | refine L3.s_raise1 ?_ | refine L3.s_raise2 ?_ | refine L3.s_star ?_ | refine L3.s_mkCR ?_ | refine L3.s_lcZ ?_ | refine L3.s_forL ?_ | refine L3.s_forT ?_ | refine L3.s_gNm ?_ | refine L3.s_forE ?_ | refine L3.s_stC ?_ | refine L3.s_cmC ?_ | refine L3.s_forR1 ?_ | refine L3.s_lcTp ?_ | refine L3.s_forZ ?_ | refine L3.s_orT ?_ | refine L3.s_mt ?_ | refine L3.s_revT ?_ | refine L3.s_revL ?_ | refine L3.s_slOwn ?_ | refine L3.s_sl3 ?_ | refine L3.s_lcO ?_ | refine L3.s_stR ?_
    | refine L3.s_isN ?_ | refine L3.s_isB ?_ | refine L3.s_nisN ?_ | refine L3.s_nisB ?_
  | ((with_reducible refine' L3.s_var ?e ?_); (case e => rfl))
  | ((with_reducible refine' L3.s_aug ?e ?_); (case e => rfl))
  | ((with_reducible refine' L3.s_pow ?c ?_); (case c => exact ⟨by decide, by decide, by decide⟩)))
local macro_rules | `(tactic| tm_at "s") => `(tactic| repeat tm_at "s1")
namespace K49
open PySem PySem.NumText PySem.Spec PyProof.Rows L2 L3 LamX RZ ClX
abbrev s__law_heard : Stmt := topS 46
abbrev names__law_heard : List Str := ["_law_ask", "_law_caught", "error"]
theorem sc__law_heard : FnScope ["_law_ask", "_law_caught", "error"] ["_law_ask"] (defScope s__law_heard) := ⟨rfl, rfl, rfl, by decide +kernel, rfl, by decide +kernel, by decide +kernel⟩
structure Kit6 (K : PySem.W.Frag) (mg : Str → Option Value) (CS CR CM CE CT CW CL : Addr) : Prop where
  e : Er K mg "BadRest" CE CL ["value"]
  t : Er K mg "BadTotal" CT CL ["value"]
  w : Er K mg "BadText" CW CL ["line", "word"]
  CS_CR : PySem.W.kitOne K (.ref CS) (.ref CR) = some false
  CE_CR : PySem.W.kitOne K (.ref CE) (.ref CR) = some false
  CE_CS : PySem.W.kitOne K (.ref CE) (.ref CS) = some false
  CT_CR : PySem.W.kitOne K (.ref CT) (.ref CR) = some false
  CT_CS : PySem.W.kitOne K (.ref CT) (.ref CS) = some false
  CT_CE : PySem.W.kitOne K (.ref CT) (.ref CE) = some false
  CW_CR : PySem.W.kitOne K (.ref CW) (.ref CR) = some false
  CW_CS : PySem.W.kitOne K (.ref CW) (.ref CS) = some false
  CW_CE : PySem.W.kitOne K (.ref CW) (.ref CE) = some false
  CW_CT : PySem.W.kitOne K (.ref CW) (.ref CT) = some false
  CM_CR : PySem.W.kitOne K (.ref CM) (.ref CR) = some false
  CM_CS : PySem.W.kitOne K (.ref CM) (.ref CS) = some false
  CM_CE : PySem.W.kitOne K (.ref CM) (.ref CE) = some false
  CM_CT : PySem.W.kitOne K (.ref CM) (.ref CT) = some false
  CM_CW : PySem.W.kitOne K (.ref CM) (.ref CW) = some false
theorem Kit6.g_BadRest {K : PySem.W.Frag} {mg : Str → Option Value} {CS CR CM CE CT CW CL : Addr} (F6 : Kit6 K mg CS CR CM CE CT CW CL) : ∃ u, mg "BadRest" = some u ∧ RelV (.ref CE) u := F6.e.g
theorem Kit6.g_BadTotal {K : PySem.W.Frag} {mg : Str → Option Value} {CS CR CM CE CT CW CL : Addr} (F6 : Kit6 K mg CS CR CM CE CT CW CL) : ∃ u, mg "BadTotal" = some u ∧ RelV (.ref CT) u := F6.t.g
theorem Kit6.g_BadText {K : PySem.W.Frag} {mg : Str → Option Value} {CS CR CM CE CT CW CL : Addr} (F6 : Kit6 K mg CS CR CM CE CT CW CL) : ∃ u, mg "BadText" = some u ∧ RelV (.ref CW) u := F6.w.g
def ErL (c : Addr) (cls : Value) (d : Option Addr) (H' : Hp) (Q : VK) : Prop := ∃ dd v1 v2, cls = .ref c ∧ d = some dd ∧ H' dd = some (.xd [("word", v2), ("line", v1)]) ∧ ∀ p H2, H' p = none → Ex H' H2 → H2 p = some (.tup [.str "text", v1, v2]) → Q (.ref p) H2
def ErA (K : PySem.W.Frag) (CS CR CM CE CT CW : Addr) (cls : Value) (d : Option Addr) (H' : Hp) (Q : VK) : Prop := ErP "part" "rule" CR cls d H' Q ∨ ErU K "value" "size" CS cls d H' Q ∨ ErU K "value" "rest" CE cls d H' Q ∨ ErU K "value" "total" CT cls d H' Q ∨ ErL CW cls d H' Q ∨ ErM CM cls d H' Q
def TTr (K : PySem.W.Frag) (CS CR CM CE CT CW : Addr) : (XK → Hp → VK → Prop) → Hp → VK → Prop := fun tl H Q => ∀ (W : XK) (S : VK),
  (∀ cls d H', ErA K CS CR CM CE CT CW cls d H' Q → W cls d H') → (∀ v H', (∀ p H2, H' p = none → Ex H' H2 → H2 p = some (.lst [v]) → Q (.ref p) H2) → S v H') → tl W H S
theorem heard_gives {X : Cx} {C : RA} {CR0 CY CS CR CM CE CT CW CL g : Addr} {cdg : Value} {k : Nat} {q : Str} (T : Txt X.K X.mg C CR0 CY CS CR CM CL) (F6 : Kit6 X.K X.mg CS CR CM CE CT CW CL) (hg : X.A.guards = some []) (hr : Room (k + 1) X.A) :
    GivesTo X names__law_heard "_law_heard" (defScope s__law_heard) g cdg (defBody s__law_heard) "_law_ask" q (TTr X.K CS CR CM CE CT CW) := by
  intro f c' s H Q tl act hc h
  obtain ⟨K, hK⟩ : ∃ K, X.K = K := ⟨_, rfl⟩
  rw [hK] at T F6 h
  refine ⟨_, pss_cons (ps_set (i := 1) sc__law_heard.nd rfl (Or.inl rfl) pe_non) (pss_cons (ps_try_note (i := 2) (m := 1) (c := .ref CL) (Wout := fun _ _ _ _ => False)
      (tb := fun W D σ H => ∃ Ech : XK, (∀ cls d σ' H', Ech cls d H' → W cls d σ' H') ∧ σ[0]? = some (some (.ref f)) ∧ H c' = some (CodeO c' q) ∧ tl Ech H fun v H' => [v].length ≤ sizeLine ∧ ∀ p, H' p = none → D.rt (.ref p) (upd H' p (.lst [v])))
      rfl rfl rfl sc__law_heard.nd rfl rfl rfl rfl ⟨rfl, by decide, .inl T.g_LateError⟩ takes0 rfl rfl rfl (fun W pn xe tk _ => ?_)) (pss_cons (ps_if (pt_val (pe_callB (KX.isiX (K := K) (by exact hK)) (by rfl) T.b_isinstance (by decide +kernel) (pa_cons (pv 1) (pa_cons (C8.pe_gc (by rfl) T.g_BadRule) pa_nil)))) (pss_one (ps_ret (pe_tup (pa_cons pe_str (pa_cons (KX.xfV (K := K) (by exact hK) (pv 1) (by rfl)) pa_nil))))) pss_nil)
      (pss_cons (ps_if (pt_val (pe_callB (KX.isiX (K := K) (by exact hK)) (by rfl) T.b_isinstance (by decide +kernel) (pa_cons (pv 1) (pa_cons (C8.pe_gc (by rfl) T.g_BadSize) pa_nil)))) (pss_one (ps_ret (pe_tup (pa_cons pe_str (pa_cons (pe_callB (callReprU (K := K) (by exact hK) hg (hr.deeper _).units) (by rfl) T.b_repr (by decide +kernel) (pa_cons (KX.xfV (K := K) (by exact hK) (pv 1) (by rfl)) pa_nil)) pa_nil))))) pss_nil)
      (pss_cons (ps_if (pt_val (pe_callB (KX.isiX (K := K) (by exact hK)) (by rfl) T.b_isinstance (by decide +kernel) (pa_cons (pv 1) (pa_cons (C8.pe_gc (by rfl) F6.g_BadRest) pa_nil)))) (pss_one (ps_ret (pe_tup (pa_cons pe_str (pa_cons (pe_callB (callReprU (K := K) (by exact hK) hg (hr.deeper _).units) (by rfl) T.b_repr (by decide +kernel) (pa_cons (KX.xfV (K := K) (by exact hK) (pv 1) (by rfl)) pa_nil)) pa_nil))))) pss_nil)
      (pss_cons (ps_if (pt_val (pe_callB (KX.isiX (K := K) (by exact hK)) (by rfl) T.b_isinstance (by decide +kernel) (pa_cons (pv 1) (pa_cons (C8.pe_gc (by rfl) F6.g_BadTotal) pa_nil)))) (pss_one (ps_ret (pe_tup (pa_cons pe_str (pa_cons (pe_callB (callReprU (K := K) (by exact hK) hg (hr.deeper _).units) (by rfl) T.b_repr (by decide +kernel) (pa_cons (KX.xfV (K := K) (by exact hK) (pv 1) (by rfl)) pa_nil)) pa_nil))))) pss_nil)
      (pss_cons (ps_if (pt_val (pe_callB (KX.isiX (K := K) (by exact hK)) (by rfl) T.b_isinstance (by decide +kernel) (pa_cons (pv 1) (pa_cons (C8.pe_gc (by rfl) F6.g_BadText) pa_nil)))) (pss_one (ps_ret (pe_tup (pa_cons pe_str (pa_cons (KX.xfV (K := K) (by exact hK) (pv 1) (by rfl)) (pa_cons (KX.xfV (K := K) (by exact hK) (pv 1) (by rfl)) pa_nil)))))) pss_nil)
      (pss_one (ps_ret (pe_ifExp (pt_val (pe_callB (KX.isiX (K := K) (by exact hK)) (by rfl) T.b_isinstance (by decide +kernel) (pa_cons (pv 1) (pa_cons (C8.pe_gc (by rfl) T.g_TooMany) pa_nil)))) (pe_tup (pa_cons pe_str (pa_cons (KX.xfV (K := K) (by exact hK) (pv 1) (by rfl)) (pa_cons (KX.xfV (K := K) (by exact hK) (pv 1) (by rfl)) pa_nil)))) (pe_tup (pa_cons pe_str pa_nil))))))))))), ?_⟩
  · refine ⟨fun pins s' σ H' D I h' => ?_⟩
    obtain ⟨Ech, hW, h1, h2, h3⟩ := h'
    have hp := fun p1 p2 => act W pn xe Ech p1 p2 tk hW
    exact (pss_one (ps_ret (pe_lst (pa_cons (hp _ _) pa_nil)))).run pins s' σ H' D I ⟨h1, h2, h3⟩
  · refine ⟨_, ?_, rfl, hc, h _ _ (fun cls d H' z => z) (fun v H1 kq => ⟨(show 1 ≤ sizeLine by decide), fun p hp => kq p _ hp (ex_new hp) upd_same⟩)⟩
    rintro cls d σ' H1 (⟨dd, v, rfl, rfl, hdd, k1⟩ | ⟨dd, v, t, rfl, rfl, hdd, hrep, k1⟩ | ⟨dd, v, t, rfl, rfl, hdd, hrep, k1⟩ | ⟨dd, v, t, rfl, rfl, hdd, hrep, k1⟩ | ⟨dd, v1, v2, rfl, rfl, hdd, k1⟩ | ⟨dd, v1, v2, rfl, rfl, hdd, k1⟩)
    · refine ⟨true, by have e := T.r.em; rw [← hK] at e; exact e, fun _ hl a ha => ?_, fun z => nomatch z⟩
      obtain ⟨x, y, z, rfl⟩ : ∃ x y z, σ' = [x, y, z] := by
        match σ', hl with
        | [x, y, z], _ => exact ⟨x, y, z, rfl⟩
      have hx : Ex H1 (upd H1 a (ExV a (.ref CR) (some dd))) := ex_new ha
      have hd2 := hx _ _ hdd
      have ha2 : (upd H1 a (ExV a (.ref CR) (some dd))) a = some (ExV a (.ref CR) (some dd)) := upd_same
      generalize upd H1 a (ExV a (.ref CR) (some dd)) = H2 at hx hd2 ha2 ⊢
      try dsimp only
      tm_at "s"
      refine .inr ⟨a, CR, dd, _, _, _, true, rfl, .own CR, ha2, hd2, T.r.exc, T.r.kB, ?_⟩
      tm_at "s"
      refine ⟨a, CR, dd, _, v, rfl, ha2, hd2, T.r.xf, T.r.nV _ (by simp), rfl, ?_⟩
      tm_at "s"
      refine s_new (Nat.le_of_lt (small1000 (by simp))) fun p H3 hp e3 h3 => ?_
      exact k1 p H3 (hx.free hp) (hx.trans e3) h3
    · refine ⟨true, by have e := T.s.em; rw [← hK] at e; exact e, fun _ hl a ha => ?_, fun z => nomatch z⟩
      obtain ⟨x, y, z, rfl⟩ : ∃ x y z, σ' = [x, y, z] := by
        match σ', hl with
        | [x, y, z], _ => exact ⟨x, y, z, rfl⟩
      have hx : Ex H1 (upd H1 a (ExV a (.ref CS) (some dd))) := ex_new ha
      have hd2 := hx _ _ hdd
      have ha2 : (upd H1 a (ExV a (.ref CS) (some dd))) a = some (ExV a (.ref CS) (some dd)) := upd_same
      generalize upd H1 a (ExV a (.ref CS) (some dd)) = H2 at hx hd2 ha2 ⊢
      try dsimp only
      tm_at "s"
      refine .inr ⟨a, CS, dd, _, _, _, false, rfl, .own CR, ha2, hd2, T.s.exc, F6.CS_CR, ?_⟩
      tm_at "s"
      refine .inr ⟨a, CS, dd, _, _, _, true, rfl, .own CS, ha2, hd2, T.s.exc, T.s.kB, ?_⟩
      tm_at "s"
      refine ⟨a, CS, dd, _, v, rfl, ha2, hd2, T.s.xf, T.s.nV _ (by simp), rfl, ?_⟩
      tm_at "s"
      refine hrep H2 _ hx ?_
      tm_at "s"
      refine s_new (Nat.le_of_lt (small1000 (by simp))) fun p H3 hp e3 h3 => ?_
      exact k1 p H3 (hx.free hp) (hx.trans e3) h3
    · refine ⟨true, by have e := F6.e.em; rw [← hK] at e; exact e, fun _ hl a ha => ?_, fun z => nomatch z⟩
      obtain ⟨x, y, z, rfl⟩ : ∃ x y z, σ' = [x, y, z] := by
        match σ', hl with
        | [x, y, z], _ => exact ⟨x, y, z, rfl⟩
      have hx : Ex H1 (upd H1 a (ExV a (.ref CE) (some dd))) := ex_new ha
      have hd2 := hx _ _ hdd
      have ha2 : (upd H1 a (ExV a (.ref CE) (some dd))) a = some (ExV a (.ref CE) (some dd)) := upd_same
      generalize upd H1 a (ExV a (.ref CE) (some dd)) = H2 at hx hd2 ha2 ⊢
      try dsimp only
      tm_at "s"
      refine .inr ⟨a, CE, dd, _, _, _, false, rfl, .own CR, ha2, hd2, F6.e.exc, F6.CE_CR, ?_⟩
      tm_at "s"
      refine .inr ⟨a, CE, dd, _, _, _, false, rfl, .own CS, ha2, hd2, F6.e.exc, F6.CE_CS, ?_⟩
      tm_at "s"
      refine .inr ⟨a, CE, dd, _, _, _, true, rfl, .own CE, ha2, hd2, F6.e.exc, F6.e.kB, ?_⟩
      tm_at "s"
      refine ⟨a, CE, dd, _, v, rfl, ha2, hd2, F6.e.xf, F6.e.nV _ (by simp), rfl, ?_⟩
      tm_at "s"
      refine hrep H2 _ hx ?_
      tm_at "s"
      refine s_new (Nat.le_of_lt (small1000 (by simp))) fun p H3 hp e3 h3 => ?_
      exact k1 p H3 (hx.free hp) (hx.trans e3) h3
    · refine ⟨true, by have e := F6.t.em; rw [← hK] at e; exact e, fun _ hl a ha => ?_, fun z => nomatch z⟩
      obtain ⟨x, y, z, rfl⟩ : ∃ x y z, σ' = [x, y, z] := by
        match σ', hl with
        | [x, y, z], _ => exact ⟨x, y, z, rfl⟩
      have hx : Ex H1 (upd H1 a (ExV a (.ref CT) (some dd))) := ex_new ha
      have hd2 := hx _ _ hdd
      have ha2 : (upd H1 a (ExV a (.ref CT) (some dd))) a = some (ExV a (.ref CT) (some dd)) := upd_same
      generalize upd H1 a (ExV a (.ref CT) (some dd)) = H2 at hx hd2 ha2 ⊢
      try dsimp only
      tm_at "s"
      refine .inr ⟨a, CT, dd, _, _, _, false, rfl, .own CR, ha2, hd2, F6.t.exc, F6.CT_CR, ?_⟩
      tm_at "s"
      refine .inr ⟨a, CT, dd, _, _, _, false, rfl, .own CS, ha2, hd2, F6.t.exc, F6.CT_CS, ?_⟩
      tm_at "s"
      refine .inr ⟨a, CT, dd, _, _, _, false, rfl, .own CE, ha2, hd2, F6.t.exc, F6.CT_CE, ?_⟩
      tm_at "s"
      refine .inr ⟨a, CT, dd, _, _, _, true, rfl, .own CT, ha2, hd2, F6.t.exc, F6.t.kB, ?_⟩
      tm_at "s"
      refine ⟨a, CT, dd, _, v, rfl, ha2, hd2, F6.t.xf, F6.t.nV _ (by simp), rfl, ?_⟩
      tm_at "s"
      refine hrep H2 _ hx ?_
      tm_at "s"
      refine s_new (Nat.le_of_lt (small1000 (by simp))) fun p H3 hp e3 h3 => ?_
      exact k1 p H3 (hx.free hp) (hx.trans e3) h3
    · refine ⟨true, by have e := F6.w.em; rw [← hK] at e; exact e, fun _ hl a ha => ?_, fun z => nomatch z⟩
      obtain ⟨x, y, z, rfl⟩ : ∃ x y z, σ' = [x, y, z] := by
        match σ', hl with
        | [x, y, z], _ => exact ⟨x, y, z, rfl⟩
      have hx : Ex H1 (upd H1 a (ExV a (.ref CW) (some dd))) := ex_new ha
      have hd2 := hx _ _ hdd
      have ha2 : (upd H1 a (ExV a (.ref CW) (some dd))) a = some (ExV a (.ref CW) (some dd)) := upd_same
      generalize upd H1 a (ExV a (.ref CW) (some dd)) = H2 at hx hd2 ha2 ⊢
      try dsimp only
      tm_at "s"
      refine .inr ⟨a, CW, dd, _, _, _, false, rfl, .own CR, ha2, hd2, F6.w.exc, F6.CW_CR, ?_⟩
      tm_at "s"
      refine .inr ⟨a, CW, dd, _, _, _, false, rfl, .own CS, ha2, hd2, F6.w.exc, F6.CW_CS, ?_⟩
      tm_at "s"
      refine .inr ⟨a, CW, dd, _, _, _, false, rfl, .own CE, ha2, hd2, F6.w.exc, F6.CW_CE, ?_⟩
      tm_at "s"
      refine .inr ⟨a, CW, dd, _, _, _, false, rfl, .own CT, ha2, hd2, F6.w.exc, F6.CW_CT, ?_⟩
      tm_at "s"
      refine .inr ⟨a, CW, dd, _, _, _, true, rfl, .own CW, ha2, hd2, F6.w.exc, F6.w.kB, ?_⟩
      tm_at "s"
      refine ⟨a, CW, dd, _, v1, rfl, ha2, hd2, F6.w.xf, F6.w.nV _ (by simp), rfl, ?_⟩
      tm_at "s"
      refine ⟨a, CW, dd, _, v2, rfl, ha2, hd2, F6.w.xf, F6.w.nV _ (by simp), rfl, ?_⟩
      tm_at "s"
      refine s_new (Nat.le_of_lt (small1000 (by simp))) fun p H3 hp e3 h3 => ?_
      exact k1 p H3 (hx.free hp) (hx.trans e3) h3
    · refine ⟨true, by have e := T.m.em; rw [← hK] at e; exact e, fun _ hl a ha => ?_, fun z => nomatch z⟩
      obtain ⟨x, y, z, rfl⟩ : ∃ x y z, σ' = [x, y, z] := by
        match σ', hl with
        | [x, y, z], _ => exact ⟨x, y, z, rfl⟩
      have hx : Ex H1 (upd H1 a (ExV a (.ref CM) (some dd))) := ex_new ha
      have hd2 := hx _ _ hdd
      have ha2 : (upd H1 a (ExV a (.ref CM) (some dd))) a = some (ExV a (.ref CM) (some dd)) := upd_same
      generalize upd H1 a (ExV a (.ref CM) (some dd)) = H2 at hx hd2 ha2 ⊢
      try dsimp only
      tm_at "s"
      refine .inr ⟨a, CM, dd, _, _, _, false, rfl, .own CR, ha2, hd2, T.m.exc, F6.CM_CR, ?_⟩
      tm_at "s"
      refine .inr ⟨a, CM, dd, _, _, _, false, rfl, .own CS, ha2, hd2, T.m.exc, F6.CM_CS, ?_⟩
      tm_at "s"
      refine .inr ⟨a, CM, dd, _, _, _, false, rfl, .own CE, ha2, hd2, T.m.exc, F6.CM_CE, ?_⟩
      tm_at "s"
      refine .inr ⟨a, CM, dd, _, _, _, false, rfl, .own CT, ha2, hd2, T.m.exc, F6.CM_CT, ?_⟩
      tm_at "s"
      refine .inr ⟨a, CM, dd, _, _, _, false, rfl, .own CW, ha2, hd2, T.m.exc, F6.CM_CW, ?_⟩
      tm_at "s"
      refine .inr ⟨a, CM, dd, _, _, _, true, rfl, .own CM, ha2, hd2, T.m.exc, T.m.kB, ?_⟩
      tm_at "s"
      refine ⟨a, CM, dd, _, v1, rfl, ha2, hd2, T.m.xf, T.m.nV _ (by simp), rfl, ?_⟩
      tm_at "s"
      refine ⟨a, CM, dd, _, v2, rfl, ha2, hd2, T.m.xf, T.m.nV _ (by simp), rfl, ?_⟩
      tm_at "s"
      refine s_new (Nat.le_of_lt (small1000 (by simp))) fun p H3 hp e3 h3 => ?_
      exact k1 p H3 (hx.free hp) (hx.trans e3) h3
/-- the def that hears, as the text has it -/
structure HeF (K : PySem.W.Frag) (mg : Str → Option Value) : Prop where
  ex : ∃ (g : Addr) (gd : FuncData), L2.Fun K "_law_heard" "_law_heard" s__law_heard g gd ∧ mg "_law_heard" = some (.ref g) ∧ L2.Binds K gd ["_law_ask"] []
theorem pe__law_heard {X : Cx} {TT : List (Addr × Str)} {C : RA} {CR0 CY CS CR CM CE CT CW CL c Pt : Addr} {k : Nat} {params : Arguments} {body : Expr} {scope : Scope} {t : XK → TE} {p lpos pos : Pos} (FH : HeF X.K X.mg) (T : Txt X.K X.mg C CR0 CY CS CR CM CL) (F6 : Kit6 X.K X.mg CS CR CM CE CT CW CL) (TB : TabB X.base X.mg c Pt) (hg : X.A.guards = some []) (hr : Room (k + 2) X.A)
    (hmT : (Pt, X.env.qual ++ "<lambda>") ∈ TT) (huT : ∀ p ∈ TT, p.1 = Pt → p.2 = X.env.qual ++ "<lambda>") (L : LamS X.env.scope scope)
    (hbody : ∀ (A : Around) (outer : List Env) (s : Shared) (H : Hp) (E : XK) (f c' : Addr), Room k (A.deeper (lamEnv X scope s.heap.objs.size f c')) → PE (lamCx X A outer s H E scope f c') body (t E))
    (gl : Gl X "_law_heard" := by rfl) (hcode : X.env.code = .ref c := by rfl) (hdef : defaultsOf params X.env = ([], []) := by rfl)
    (hbind : ∀ (q : Str) (cl : List (Str × Addr)) (pm cv ctv : Value), bindArgs (PySem.W.kla_fn "<lambda>" q params body scope cl pm cv ctv) ⟨[], []⟩ = pure [] := by intros; rfl) :
    PE X (.Call (.Name "_law_heard" p) [.Lambda params body scope lpos] [] pos) (tLam TT (TTr X.K CS CR CM CE CT CW) t) := by
  obtain ⟨g, gd, F, m, b⟩ := FH.ex
  obtain ⟨oc, od, kV, doc, pm, an, cd, ct, sl, rfl, lk, hcd⟩ := F.ex
  exact pe_lamcall gl m F.kp lk hcd b sc__law_heard rfl (.inl rfl) (heard_gives T F6 hg hr) TB hcode hmT huT hr L hdef hbind hbody
section
variable {K : PySem.W.Frag} {CS CR CM CE CT CW : Addr} {σ : L2.St} {H : Hp} {Q : VK} {Tt : List (Addr × Str)} {t : XK → TE}
theorem s_hrMy {v1 v2 : V} (ht : Tabs Tt H) (ask : ∀ (E : XK) (H1 : Hp) (Q' : VK), ExtN H H1 → Tabs Tt H1 → Rz2 CM "what" "most" v1 v2 H1 E → t E σ H1 Q')
    (k : ∀ p H', ExtN H H' → Tabs Tt H' → H' p = some (.tup [.str "many", v1, v2]) → Q (.ref p) H') : tLam Tt (TTr K CS CR CM CE CT CW) t σ H Q := by
  refine ⟨ht, fun H1 e1 t1 W S hW hS => ?_⟩
  show t _ σ H1 _
  exact ask _ H1 _ e1 t1 fun d H' nd e' hd => hW _ _ _ (.inr (.inr (.inr (.inr (.inr ⟨d, v1, v2, rfl, rfl, hd, fun p H2 np e2 h2 => k p H2 (e1.trans (e'.trans e2).n) (t1.ext (e'.trans e2)) h2⟩)))))
theorem s_hrTx {v1 v2 : V} (ht : Tabs Tt H) (ask : ∀ (E : XK) (H1 : Hp) (Q' : VK), ExtN H H1 → Tabs Tt H1 → Rz2 CW "line" "word" v1 v2 H1 E → t E σ H1 Q')
    (k : ∀ p H', ExtN H H' → Tabs Tt H' → H' p = some (.tup [.str "text", v1, v2]) → Q (.ref p) H') : tLam Tt (TTr K CS CR CM CE CT CW) t σ H Q := by
  refine ⟨ht, fun H1 e1 t1 W S hW hS => ?_⟩
  show t _ σ H1 _
  exact ask _ H1 _ e1 t1 fun d H' nd e' hd => hW _ _ _ (.inr (.inr (.inr (.inr (.inl ⟨d, v1, v2, rfl, rfl, hd, fun p H2 np e2 h2 => k p H2 (e1.trans (e'.trans e2).n) (t1.ext (e'.trans e2)) h2⟩)))))
/-- it gives a value -/
theorem s_hrV {Pv : V → Hp → Prop} (hP : ∀ v H H', Pv v H → Ex H H' → Pv v H') (ht : Tabs Tt H) (ask : ∀ (E : XK) (H1 : Hp) (Q' : VK), ExtN H H1 → Tabs Tt H1 → (∀ v H', Ex H1 H' → Pv v H' → Q' v H') → t E σ H1 Q')
    (k : ∀ p v H', ExtN H H' → Tabs Tt H' → H' p = some (.lst [v]) → Pv v H' → Q (.ref p) H') : tLam Tt (TTr K CS CR CM CE CT CW) t σ H Q := by
  refine ⟨ht, fun H1 e1 t1 W S hW hS => ?_⟩
  show t _ σ H1 _
  exact ask _ H1 _ e1 t1 fun v H' e' pv => hS v H' fun p H2 np e2 h2 => k p v H2 (e1.trans (e'.trans e2).n) (t1.ext (e'.trans e2)) h2 (hP _ _ _ pv e2)
end
end K49
end
section
local macro_rules | `(tactic| tm_at "s1") => `(tactic| first
  | with_reducible first
    | refine L3.s_seq ?_ | refine L3.s_asg ?_ | refine L3.s_op ?_ | refine L3.s_c ?_ | refine L3.s_cb ?_ | refine L3.s_cons ?_ | refine L3.s_nil ?_ | refine L3.s_test ?_ | refine L3.s_bl ?_
    | refine L3.s_I0 ?_ | refine L3.s_and ?_ | refine L3.s_or ?_ | refine L3.s_not ?_ | refine L3.s_if ?_ | refine L3.s_next ?_ | refine L3.s_ret ?_ | refine L3.s_retN ?_ | refine L3.s_asgS ?_ | refine L3.s_drop ?_
    | refine L3.s_un ?_ | refine L3.s_U ?_ | refine L3.s_int ?_ | refine L3.s_intB ?_ | refine L3.s_abs ?_ | refine L3.s_andV ?_ | refine L3.s_orV ?_ | refine L3.s_notV ?_ | refine L3.s_ifE ?_ | refine L3.s_call ?_ | refine L3.s_lst ?_ | refine L3.s_tup ?_ | refine L3.s_tB ?_
    | refine L3.s_addI ?_ | refine L3.s_inS ?_ | refine L3.s_ninS ?_ | refine L3.s_slice ?_ | refine L3.s_part ?_ | refine L3.s_partI ?_ | refine L3.s_nopart ?_ | refine L3.s_cI ?_ | refine L3.s_cB ?_ | refine L3.s_chain ?_ | refine L3.s_bm ?_ | refine L3.s_lcS ?_ | refine L3.s_lcR ?_ | refine L3.s_strE ?_
    | refine L2.iteT ?_ | refine L2.iteF ?_ | refine L3.iteNF ?_ | refine L3.iteNT ?_
    | refine L3.s_eqI ?_ | refine L3.s_neI ?_ | refine L3.s_eqS ?_ | refine L3.s_neS ?_
    | refine L3.s_pair ?_ | refine L3.s_pair2 ?_ | refine L3.s_fld ?_ | refine L3.s_make ?_ | refine L3.s_m1 ?_ | refine L3.s_isstr ?_
    | refine L3.s_xfV ?_ | refine L3.s_lstN ?_ | refine L3.s_callF ?_ | refine L3.s_lcL ?_ | refine L3.s_par3 ?_ | refine L3.s_trip ?_ | refine L3.s_asgT' ?_ | refine L3.s_gC ?_ | refine L3.s_gN ?_ | refine L3.s_fldG ?_ | refine L3.s_raise1 ?_ | refine L3.s_raise2 ?_ | refine L3.s_star ?_ | refine L3.s_mkCR ?_ | refine L3.s_lcZ ?_ | refine L3.s_forL ?_ | refine L3.s_forT ?_ | refine L3.s_gNm ?_ | refine L3.s_forE ?_ | refine L3.s_stC ?_ | refine L3.s_cmC ?_ | refine L3.s_forR1 ?_ | refine L3.s_lcTp ?_ | refine L3.s_forZ ?_ | refine L3.s_orT ?_ | refine L3.s_mt ?_ | refine L3.s_revT ?_ | refine L3.s_revL ?_ | refine L3.s_slOwn ?_ | refine L3.s_sl3 ?_ | refine L3.s_lcO ?_ | refine L3.s_stR ?_
    | refine L3.s_isN ?_ | refine L3.s_isB ?_ | refine L3.s_nisN ?_ | refine L3.s_nisB ?_
  | ((with_reducible refine' L3.s_var ?e ?_); (case e => rfl))
  | ((with_reducible refine' L3.s_aug ?e ?_); (case e => rfl))
  | ((with_reducible refine' L3.s_pow ?c ?_); (case c => exact ⟨by decide, by decide, by decide⟩)))
local macro_rules | `(tactic| tm_at "s") => `(tactic| repeat tm_at "s1")
namespace K49
open PySem PySem.NumText PySem.Spec PyProof.Rows L2 L3 LamX RZ ClX
abbrev s__law_read_right : Stmt := topS 50
theorem sc__law_read_right : FnScope ["_law_page", "_law_due_here", "_law_heard_here"] ["_law_page"] (defScope s__law_read_right) := ⟨rfl, rfl, rfl, by decide +kernel, rfl, by decide +kernel, by decide +kernel⟩
abbrev s__law_bent : Stmt := topS 51
theorem sc__law_bent : FnScope ["_law_pen_here", "_law_page", "_law_words", "_law_way", "_law_at_so", "_law_some", "_law_wordy"] ["_law_pen_here", "_law_page"] (defScope s__law_bent) := ⟨rfl, rfl, rfl, by decide +kernel, rfl, by decide +kernel, by decide +kernel⟩
abbrev lamQ1 : Str := (("_law_read_right" : Str) ++ ".<locals>.") ++ "<lambda>"
section
variable {P : Program} {w : World} {K : PySem.W.Frag} {mg : Str → Option Value} {base : Heap} {C : RA} {CR0 CY CS CR CM CE CT CW CL : Addr}
def spRdR (Tt : List (Addr × Str)) : Sp := fun vs H Q _ => ∃ z, vs = [.str z] ∧ Pw 70 z ∧ Tabs Tt H ∧ ∀ H', ExtN H H' → Tabs Tt H' → Q (.bl true) H'
theorem dp3 {H : Hp} {q : Addr} {a : Str} {i j : Int} (h : H q = some (.tup [.str a, .int i, .int j])) : Dp K H (.ref q) (.tuple [.str a, .int i, .int j]) := .tup (.inl (.inl h)) (.cons (.str _) (.cons (.int _) (.cons (.int _) .nil)))
theorem sh3 {a : Str} (h : PyData.strOk a = true) (i j : Int) : SeqAt.shaped (.tuple [.str a, .int i, .int j]) = true := by
  unfold SeqAt.shaped
  simp only [PyData.canLay0, PyData.canLayAll0, h, PyData.depth, PyData.depthAll]
  rfl
def myD : PyData := .tuple [.str "many", .str "residues", .int 5000]
theorem dpMy {H : Hp} {q : Addr} (h : H q = some (.tup [.str "many", .str "residues", .int 5000])) : Dp K H (.ref q) myD := .tup (.inl (.inl h)) (.cons (.str _) (.cons (.str _) (.cons (.int _) .nil)))
theorem ok_rdr {f c Pt : Addr} {fd : FuncData} (F : FunC K "_law_read_right" "_law_read_right" s__law_read_right c f fd) (TB : TabB base mg c Pt) {Tt : List (Addr × Str)} (hmT : (Pt, lamQ1) ∈ Tt) (huT : ∀ p ∈ Tt, p.1 = Pt → p.2 = lamQ1) (T : Txt K mg C CR0 CY CS CR CM CL) (F6 : Kit6 K mg CS CR CM CE CT CW CL) (FH : HeF K mg)
    (c__law_due : Fn P w K mg base CX0 73 "_law_due" ["_law_page"] (spDue 70)) (st_read : StM P w K mg base (L2.CX P w) 13 CR0 "read" ["text"] (spReadR K C CM CW)) (me_str : ∀ j, j < 4 → Me P w K mg base (C.at j) "__str__" 13 ["self"] (spStrR C j 6)) :
    FnG P w K mg base CX0 75 f fd ["_law_page"] (spRdR Tt) := by
  refine funGC F sc__law_read_right (fun vs H Q E h => ?_) (fun A fr s H vs Q E hr hg h => ?_)
  · obtain ⟨z, rfl, _⟩ := h; rfl
  · obtain ⟨z, rfl, hz, ht, k⟩ := h
    have hpt := hz.pt
    have hzl : z.length ≤ 90000 := Nat.le_trans hpt.1 (by decide)
    refine ⟨_, (pss_cons (ps_par (by rfl) sc__law_read_right.nd (i := 1) (j := 2) rfl rfl (by decide) rfl rfl (pa_cons (pe_f (hk := by omega) c__law_due hr hg pass0 (pa_cons (pv 0) pa_nil)) (pa_cons (pe__law_heard FH T F6 TB hg hr hmT huT (lamS_by (sc := defScope s__law_read_right) (by decide +kernel)) (fun A outer s H E f c' hr' => (pe_st (hk := by omega) st_read hr' (passT (takes_of rfl rfl rfl rfl) (fun _ _ _ _ h => h)) (C8.pe_gc (by rfl) T.g_Rule) (pa_cons (pv 0) pa_nil)))) pa_nil)) (by rfl))
      (pss_cons (ps_if (pt_cmpR opIsNot (pv 1) pe_non (nomark _)) (pss_one (ps_ret (pe_cmpR (KX.eqV (K := K) rfl hr) (pv 2) (pe_tup (pa_cons pe_str (pa_cons pe_int (pa_cons (pv 1) pa_nil)))) (nomark _)))) pss_nil)
      (pss_one (ps_ret (pe_or (pe_cmpR (KX.eqV (K := K) rfl hr) (pv 2) (pe_tup (pa_cons pe_str (pa_cons pe_str (pa_cons pe_int pa_nil)))) (nomark _)) (pe_one (pe_and (pe_callB (KX.callIsi (K := K)) (by rfl) T.b_isinstance (by decide +kernel) (pa_cons (pv 2) (pa_cons (pe_bltn (v := .ty "list") (u := .type "list") (by rfl) T.b_list (by decide +kernel) rfl) pa_nil))) (pe_one (pe_cmpR (KX.eqU (K := K) rfl hr.units) (pe_any (n := 4) fun j hj => pe_callTy (callStrOwn (hk := by omega) (me_str j hj) hr passF) (by rfl) T.b_str (by decide +kernel) (pa_cons (pe_ix (KX.ixU (K := K)) (pv 2) pe_int (fun _ _ => rfl)) pa_nil)) (pv 0) (nomark _)))))))))), ?_⟩
    tm_at "s"
    cases hrd : rdR z with
    | error j =>
      refine ⟨z, rfl, hz, by decide, fun e he H1 e1 => ?_, fun h => by rw [hrd] at h; cases h⟩
      obtain rfl : e = j := by rw [hrd] at he; cases he; rfl
      tm_at "s"
      refine s_hrTx (v1 := .int 0) (v2 := .int ((e : Nat) : Int)) (ht.ext e1) (fun E1 H2 Q' e2 t2 rz => ?_) (fun p H2 e2 t2 h2 => ?_)
      · tm_at "s"
        exact ⟨_, rfl, .inl ⟨z, rfl, hzl, .inl ⟨e, hrd, rz⟩⟩⟩
      · try dsimp only
        tm_at "s"
        refine iteND (fun _ => ?_) (fun z => nomatch z)
        tm_at "s"
        refine s_new (Nat.le_of_lt (small1000 (by simp))) fun q H3 n3 e3 h3 => ?_
        have so : PyData.strOk ("text" : Str) = true := by decide +kernel
        refine .inl (.inr (s_eqD (dp3 (e3 _ _ h2)) (dp3 h3) (sh3 so _ _) (sh3 so _ _) ?_))
        rw [SeqAt.eqv_refl _ (SeqAt.canLay_of_shaped (sh3 so _ _))]
        exact k _ (e1.n.trans (e2.trans e3.n)) (t2.ext e3)
    | ok u =>
      obtain ⟨t, ok, hn, rfl⟩ := rdR_ok hrd
      refine ⟨textT t, rfl, hz, by decide, fun e he => (by rw [hrd] at he; cases he), fun _ H1 e1 => ?_⟩
      tm_at "s"
      have so : SeqAt.shaped myD = true := by decide +kernel
      by_cases hm : t.md ≤ 5000
      · refine s_hrV (Pv := fun v H => ∃ q ps, v = .ref q ∧ RuAt C H t q ps) (fun v H H' ⟨q, ps, a, b⟩ e => ⟨q, ps, a, b.ex e⟩) (ht.ext e1) (fun E1 H2 Q' e2 t2 kk => ?_) (fun p v H2 e2 t2 h2 pv => ?_)
        · tm_at "s"
          exact ⟨_, rfl, .inl ⟨textT t, rfl, hzl, .inr ⟨t, ok, hn, rfl, .inl ⟨hm, fun q ps H3 e3 ru => kk _ H3 e3 ⟨q, ps, rfl, ru⟩⟩⟩⟩⟩
        · obtain ⟨q, ps, rfl, ru⟩ := pv
          try dsimp only
          tm_at "s"
          refine iteND (fun z => absurd rfl z) (fun _ => ?_)
          tm_at "s"
          refine s_new (Nat.le_of_lt (small1000 (by simp))) fun tq H3 n3 e3 h3 => ?_
          refine .inr ⟨p, tq, _, _, rfl, rfl, .inl (.inl (e3 _ _ h2)), .inl (.inl h3), ?_⟩
          tm_at "s"
          refine s_isiT (.x (isiL (e3 _ _ h2))) (b := true) (kit_ty (by decide +kernel)) ?_
          tm_at "s"
          have ru3 := ru.ex e3
          obtain ⟨dq, fq, tt, iq, _⟩ := ru3.ins
          refine ⟨t.ix, t.ix_lt, ?_⟩
          tm_at "s"
          refine s_iL (e3 _ _ h2) rfl ?_
          tm_at "s"
          refine ⟨q, dq, fq, rfl, iq, t, q, ps, rfl, ru3, ok, rfl, hn, hn, textT t, rfl, ?_⟩
          tm_at "s"
          rw [decide_eq_true rfl]
          exact k _ (e1.n.trans (e2.trans e3.n)) (t2.ext e3)
      · refine s_hrMy (v1 := .str "residues") (v2 := .int 5000) (ht.ext e1) (fun E1 H2 Q' e2 t2 rz => ?_) (fun p H2 e2 t2 h2 => ?_)
        · tm_at "s"
          exact ⟨_, rfl, .inl ⟨textT t, rfl, hzl, .inr ⟨t, ok, hn, rfl, .inr ⟨Nat.lt_of_not_le hm, rz⟩⟩⟩⟩
        · try dsimp only
          tm_at "s"
          refine iteND (fun z => absurd rfl z) (fun _ => ?_)
          tm_at "s"
          refine s_new (Nat.le_of_lt (small1000 (by simp))) fun tq H3 n3 e3 h3 => ?_
          refine .inl (.inr (s_eqD (dpMy (e3 _ _ h2)) (dpMy h3) so so ?_))
          rw [SeqAt.eqv_refl _ (SeqAt.canLay_of_shaped so)]
          tm_at "s"
          exact k _ (e1.n.trans (e2.trans e3.n)) (t2.ext e3)
def somes : List Str := (["", "(", ")", "&", "|", "fixed", "divided", "by", "0", "1", "24", "25", "-1", "-1000", "-1001", "1001"] : List Str) ++ (["1" ++ repS "0" (30 : Int).toNat, "1" ++ repS "0" (31 : Int).toNat, "-0", "a", "fixed 3", "( fixed 1", "divided 1 1 2", "2\n", "07"] : List Str)
def spBent : Sp := fun vs H Q _ => ∃ a n N z, vs = [.ref a, .str z] ∧ Pw N z ∧ 1 ≤ N ∧ N ≤ 100 ∧ Pen H a n ∧ n + 10 < lim ∧
  ∀ y H' m, m ≤ n + 3 → Pw (N + 4) y → (∀ b o, b ≠ a → H b = some o → H' b = some o) → Pen H' a m → Q (.str y) H'
theorem sz4 {n : Nat} (h : n ≤ 100000) : n ≤ sizeLine := Nat.le_of_lt (sz_of h)
theorem ok_bent {f : Addr} {fd : FuncData} (F : Fun K "_law_bent" "_law_bent" s__law_bent f fd) (T : Txt K mg C CR0 CY CS CR CM CL) (c__law_draw : Fn P w K mg base CX0 1 "_law_draw" ["_law_pen_here", "_law_many"] spDraw) (c__law_pick : Fn P w K mg base CX0 2 "_law_pick" ["_law_pen_here", "_law_some"] spPick) : FnG P w K mg base CX0 3 f fd ["_law_pen_here", "_law_page"] spBent := by
  refine funG F sc__law_bent (fun vs H Q E h => ?_) (fun cd A fr s H vs Q E hr hg h => ?_)
  · obtain ⟨a, n, N, z, rfl, _⟩ := h; rfl
  · obtain ⟨a, n, N, z, rfl, hz, hN1, hN, hp, hn, k⟩ := h
    have hzl : z.length ≤ 100000 := Nat.le_trans hz.pt.1 (by omega)
    refine ⟨_, (pss_cons (ps_set (i := 2) sc__law_bent.nd rfl (Or.inl rfl) (pe_split (pv 1) pe_str))
      (pss_cons (ps_par (by rfl) sc__law_bent.nd (i := 3) (j := 4) rfl rfl (by decide) rfl rfl (pa_cons (pe_f c__law_draw hr hg pass0 (pa_cons (pv 0) (pa_cons pe_int pa_nil))) (pa_cons (pe_f c__law_draw hr hg pass0 (pa_cons (pv 0) (pa_cons (pe_op opAdd (pe_callB (KX.callLen (K := K)) (by rfl) T.b_len (by decide +kernel) (pa_cons (pv 2) pa_nil)) pe_int) pa_nil))) pa_nil)) (by rfl))
      (pss_cons (ps_set (i := 5) sc__law_bent.nd rfl (Or.inl rfl) (pe_lst (pa_cons pe_str (pa_cons pe_str (pa_cons pe_str (pa_cons pe_str (pa_cons pe_str (pa_cons pe_str (pa_cons pe_str (pa_cons pe_str (pa_cons pe_str (pa_cons pe_str (pa_cons pe_str (pa_cons pe_str (pa_cons pe_str (pa_cons pe_str (pa_cons pe_str (pa_cons pe_str pa_nil))))))))))))))))))
      (pss_cons (ps_set (i := 5) sc__law_bent.nd rfl (Or.inl rfl) (pe_op opAdd (pv 5) (pe_lst (pa_cons (pe_op opAdd pe_str (pe_op opMul pe_str pe_int)) (pa_cons (pe_op opAdd pe_str (pe_op opMul pe_str pe_int)) (pa_cons pe_str (pa_cons pe_str (pa_cons pe_str (pa_cons pe_str (pa_cons pe_str (pa_cons pe_str (pa_cons pe_str pa_nil))))))))))))
      (pss_cons (ps_set (i := 6) sc__law_bent.nd rfl (Or.inl rfl) (pe_f c__law_pick hr hg pass0 (pa_cons (pv 0) (pa_cons (pv 5) pa_nil))))
      (pss_cons (ps_if (pt_cmpR (KX.eqU (K := K) rfl hr.units) (pv 3) pe_int (nomark _)) (pss_one (ps_ret (L2.pe_join pe_str (pe_op opAdd (pe_op opAdd (pe_slice (KX.slU (K := K)) (pv 2) po_none (po_some (pv 4))) (pe_lst (pa_cons (pv 6) pa_nil))) (pe_slice (KX.slU (K := K)) (pv 2) (po_some (pv 4)) po_none))))) pss_nil)
      (pss_cons (ps_if (pt_cmpR (KX.eqU (K := K) rfl hr.units) (pv 3) pe_int (nomark _)) (pss_one (ps_ret (L2.pe_join pe_str (pe_op opAdd (pe_slice (KX.slU (K := K)) (pv 2) po_none (po_some (pv 4))) (pe_slice (KX.slU (K := K)) (pv 2) (po_some (pe_op opAdd (pv 4) pe_int)) po_none))))) pss_nil)
      (pss_cons (ps_if (pt_cmpR (KX.eqU (K := K) rfl hr.units) (pv 3) pe_int (nomark _)) (pss_one (ps_ret (L2.pe_join pe_str (pe_op opAdd (pe_op opAdd (pe_slice (KX.slU (K := K)) (pv 2) po_none (po_some (pv 4))) (pe_lst (pa_cons (pv 6) pa_nil))) (pe_slice (KX.slU (K := K)) (pv 2) (po_some (pe_op opAdd (pv 4) pe_int)) po_none))))) pss_nil)
      (pss_cons (ps_if (pt_cmpR (KX.eqU (K := K) rfl hr.units) (pv 3) pe_int (nomark _)) (pss_one (ps_ret (L2.pe_join pe_str (pe_op opAdd (pe_op opAdd (pe_slice (KX.slU (K := K)) (pv 2) po_none (po_some (pv 4))) (pe_slice (KX.slU (K := K)) (pv 2) (po_some (pv 4)) (po_some (pe_op opAdd (pv 4) pe_int)))) (pe_slice (KX.slU (K := K)) (pv 2) (po_some (pv 4)) po_none))))) pss_nil)
      (pss_one (ps_ret (L2.pe_join pe_str (pe_op opAdd (pe_op opAdd (pe_slice (KX.slU (K := K)) (pv 2) po_none (po_some (pv 4))) (KX.revL (K := K) rfl (pe_slice (KX.slU (K := K)) (pv 2) (po_some (pv 4)) (po_some (pe_op opAdd (pv 4) pe_int))))) (pe_slice (KX.slU (K := K)) (pv 2) (po_some (pe_op opAdd (pv 4) pe_int)) po_none)))))))))))))), ?_⟩
    tm_at "s"
    refine s_splitW hzl fun l H1 nl e1 h1 => ?_
    have hself : ∀ u ∈ wds z, wds u = [u] := fun u hu => wds_mem hu
    have hpos : 0 < (wds z).length := List.length_pos_iff.mpr (wds_facts z).1
    obtain ⟨hpt, hlen⟩ := hz
    generalize wds z = ws at *
    have nla : l ≠ a := penNf hp nl
    try dsimp only
    tm_at "s"
    refine ⟨a, n, 5, rfl, by decide, lt8000s (by decide) (by decide), hp.ex e1, by omega, fun d H2 d0 d1 hp2 k2 => ?_⟩
    have h2 := k2 _ _ nla h1
    tm_at "s"
    refine s_lenL h2 ?_
    rw [List.length_map]
    tm_at "s"
    refine ⟨a, n + 1, _, rfl, by omega, lt8000s (by omega) (by omega), hp2, by omega, fun s4 H3 s0 s1 hp3 k3 => ?_⟩
    obtain ⟨i, rfl⟩ : ∃ i : Nat, s4 = ((i : Nat) : Int) := ⟨s4.toNat, by omega⟩
    have h3 := k3 _ _ nla h2
    try dsimp only
    tm_at "s"
    refine s_new (Nat.le_of_lt (small1000 (by simp))) fun sa H4 n4 e4 h4 => ?_
    try dsimp only
    tm_at "s"
    refine s_mulS (by decide) (by decide) (by decide +kernel) ?_
    refine s_addS (by decide +kernel) ?_
    tm_at "s"
    refine s_mulS (by decide) (by decide) (by decide +kernel) ?_
    refine s_addS (by decide +kernel) ?_
    tm_at "s"
    refine s_new (Nat.le_of_lt (small1000 (by simp))) fun sb H5 n5 e5 h5 => ?_
    refine s_addL (e5 _ _ h4) h5 (by decide) fun sm H6 n6 e6 h6 => ?_
    have E6 := e4.trans (e5.trans e6)
    have hp6 := hp3.ex E6
    try dsimp only
    tm_at "s"
    refine ⟨a, sm, n + 1 + 1, _, rfl, h6, by simp, by simp, hp6, by omega, fun v H7 hv hp7 k7 => ?_⟩
    have l7 := k7 _ _ nla (E6 _ _ h3)
    have kk : ∀ b o, b ≠ a → H b = some o → H7 b = some o := fun b o hb h => k7 b o hb (E6 _ _ (k3 b o hb (k2 b o hb (e1 _ _ h))))
    clear h1 h2 h3 h4 h5 h6 k2 k3 k7 e1 e4 e5 e6 E6 hp2 hp3 hp6 n4 n5 n6
    obtain ⟨wd, rfl, hwd⟩ : ∃ wd, v = .str wd ∧ Pw 4 wd := by
      have hall : (somes.all fun y => pwB 4 y) = true := by decide +kernel
      have hv : v ∈ somes.map V.str := hv
      obtain ⟨y, hy, rfl⟩ := List.mem_map.mp hv
      exact ⟨y, rfl, pw_of (List.all_eq_true.mp hall y hy)⟩
    have hwl : wd.length ≤ 200 := Nat.le_trans hwd.pt.1 (by decide)
    have fin : ∀ (us : List Str) (H8 : Hp) (p8 : Addr), Ex H7 H8 → H8 p8 = some (.lst (us.map V.str)) → (∀ u ∈ us, u ∈ ws ∨ u = wd) → us.length ≤ 3 * ws.length + 3 → (us.flatMap wds).length ≤ N + 4 →
        ∃ b p, ∃ zs : List Str, V.str " " = .str b ∧ [V.ref p8] = [.ref p] ∧ (SqL K H8 p (zs.map V.str) ∨ SqT K H8 p (zs.map V.str)) ∧ (zs.map (·.length)).sum + zs.length * b.length ≤ 16777216 ∧ Q (.str (Txt.join b zs)) H8 := by
      intro us H8 p8 e8 h8 hu hl hc
      have hle : ∀ u ∈ us, u.length ≤ 200 := fun u hm => (hu u hm).elim (fun h => Nat.le_trans (hpt u h).1 (by decide)) fun h => by rw [h]; exact hwl
      refine s_joinL h8 ?_ ?_
      · have := sum_le hle
        rw [show (" " : Str).length = 1 by decide +kernel]
        omega
      · refine k _ H8 _ (Nat.le_refl _) (Pw.join (fun w hw => ?_) hc (by omega)) (fun b o hb h => e8 _ _ (kk b o hb h)) (hp7.ex e8)
        obtain ⟨u, hm, hw⟩ := List.mem_flatMap.mp hw
        rcases hu u hm with h | h
        · rw [hself u h, List.mem_singleton] at hw
          rw [hw]; exact hpt u h
        · rw [h] at hw; exact hwd.1 w hw
    have fl : ∀ {us : List Str}, (∀ u ∈ us, u ∈ ws) → us.flatMap wds = us := fun h => flat_len (N := 0) fun u hu => hself u (h u hu)
    have m1 : ∀ j, ∀ u ∈ ws.take j, u ∈ ws := fun j u hu => List.mem_of_mem_take hu
    have m2 : ∀ j, ∀ u ∈ ws.drop j, u ∈ ws := fun j u hu => List.mem_of_mem_drop hu
    have c1 : (((i : Nat) : Int) + 1) = ((i + 1 : Nat) : Int) := by omega
    have c2 : (((i : Nat) : Int) + 2) = ((i + 2 : Nat) : Int) := by omega
    have wl4 := hwd.2
    tm_at "s"
    refine iteD (fun w0 => ?_) (fun w0 => ?_)
    · tm_at "s"
      refine s_slL (.inl (.inl l7)) fun q6 H8 n8 e8 h8 => ?_
      rw [cut_to_, ← List.map_take] at h8
      tm_at "s"
      refine s_new (Nat.le_of_lt (small1000 (by simp))) fun q9 H9 n9 e9 h9 => ?_
      refine s_addL (e9 _ _ h8) h9 (sz4 (by simp; omega)) fun q10 H10 n10 e10 h10 => ?_
      tm_at "s"
      refine s_slL (.inl (.inl ((e8.trans (e9.trans e10)) _ _ l7))) fun q11 H11 n11 e11 h11 => ?_
      rw [cut_from_, ← List.map_drop] at h11
      refine s_addL (e11 _ _ h10) h11 (sz4 (by simp; omega)) fun q12 H12 n12 e12 h12 => ?_
      refine fin (ws.take i ++ [wd] ++ ws.drop i) H12 q12 ((e8.trans (e9.trans e10)).trans (e11.trans e12)) (by rw [h12]; simp) (fun u hu => ?_) (by simp; omega) ?_
      · simp only [List.mem_append, List.mem_singleton] at hu
        rcases hu with (hu | hu) | hu
        · exact .inl (m1 _ u hu)
        · exact .inr hu
        · exact .inl (m2 _ u hu)
      · rw [List.flatMap_append, List.flatMap_append, fl (m1 i), fl (m2 i)]
        simp; omega
    tm_at "s"
    refine iteD (fun w1 => ?_) (fun w1 => ?_)
    · tm_at "s"
      refine s_slL (.inl (.inl l7)) fun q6 H8 n8 e8 h8 => ?_
      rw [cut_to_, ← List.map_take] at h8
      tm_at "s"
      rw [c1]
      refine s_slL (.inl (.inl (e8 _ _ l7))) fun q11 H11 n11 e11 h11 => ?_
      rw [cut_from_, ← List.map_drop] at h11
      refine s_addL (e11 _ _ h8) h11 (sz4 (by simp; omega)) fun q12 H12 n12 e12 h12 => ?_
      refine fin (ws.take i ++ ws.drop (i + 1)) H12 q12 (e8.trans (e11.trans e12)) (by rw [h12]; simp) (fun u hu => ?_) (by simp; omega) ?_
      · rcases List.mem_append.mp hu with hu | hu
        · exact .inl (m1 _ u hu)
        · exact .inl (m2 _ u hu)
      · rw [List.flatMap_append, fl (m1 i), fl (m2 (i + 1))]
        simp; omega
    tm_at "s"
    refine iteD (fun w2 => ?_) (fun w2 => ?_)
    · tm_at "s"
      refine s_slL (.inl (.inl l7)) fun q6 H8 n8 e8 h8 => ?_
      rw [cut_to_, ← List.map_take] at h8
      tm_at "s"
      refine s_new (Nat.le_of_lt (small1000 (by simp))) fun q9 H9 n9 e9 h9 => ?_
      refine s_addL (e9 _ _ h8) h9 (sz4 (by simp; omega)) fun q10 H10 n10 e10 h10 => ?_
      tm_at "s"
      rw [c1]
      refine s_slL (.inl (.inl ((e8.trans (e9.trans e10)) _ _ l7))) fun q11 H11 n11 e11 h11 => ?_
      rw [cut_from_, ← List.map_drop] at h11
      refine s_addL (e11 _ _ h10) h11 (sz4 (by simp; omega)) fun q12 H12 n12 e12 h12 => ?_
      refine fin (ws.take i ++ [wd] ++ ws.drop (i + 1)) H12 q12 ((e8.trans (e9.trans e10)).trans (e11.trans e12)) (by rw [h12]; simp) (fun u hu => ?_) (by simp; omega) ?_
      · simp only [List.mem_append, List.mem_singleton] at hu
        rcases hu with (hu | hu) | hu
        · exact .inl (m1 _ u hu)
        · exact .inr hu
        · exact .inl (m2 _ u hu)
      · rw [List.flatMap_append, List.flatMap_append, fl (m1 i), fl (m2 (i + 1))]
        simp; omega
    tm_at "s"
    refine iteD (fun w3 => ?_) (fun w3 => ?_)
    · tm_at "s"
      refine s_slL (.inl (.inl l7)) fun q6 H8 n8 e8 h8 => ?_
      rw [cut_to_, ← List.map_take] at h8
      tm_at "s"
      rw [c1]
      refine s_slL (.inl (.inl (e8 _ _ l7))) fun q9 H9 n9 e9 h9 => ?_
      rw [cut_mid_, ← List.map_drop, ← List.map_take] at h9
      refine s_addL (e9 _ _ h8) h9 (sz4 (by simp; omega)) fun q10 H10 n10 e10 h10 => ?_
      tm_at "s"
      refine s_slL (.inl (.inl ((e8.trans (e9.trans e10)) _ _ l7))) fun q11 H11 n11 e11 h11 => ?_
      rw [cut_from_, ← List.map_drop] at h11
      refine s_addL (e11 _ _ h10) h11 (sz4 (by simp; omega)) fun q12 H12 n12 e12 h12 => ?_
      have m3 : ∀ u ∈ (ws.drop i).take 1, u ∈ ws := fun u hu => m2 i u (List.mem_of_mem_take hu)
      refine fin (ws.take i ++ (ws.drop i).take 1 ++ ws.drop i) H12 q12 ((e8.trans (e9.trans e10)).trans (e11.trans e12)) (by rw [h12]; simp) (fun u hu => ?_) (by simp; omega) ?_
      · simp only [List.mem_append] at hu
        rcases hu with (hu | hu) | hu
        · exact .inl (m1 _ u hu)
        · exact .inl (m3 u hu)
        · exact .inl (m2 _ u hu)
      · rw [List.flatMap_append, List.flatMap_append, fl (m1 i), fl (m2 i), fl m3]
        simp; omega
    · tm_at "s"
      refine s_slL (.inl (.inl l7)) fun q6 H8 n8 e8 h8 => ?_
      rw [cut_to_, ← List.map_take] at h8
      tm_at "s"
      rw [c2]
      refine s_slL (.inl (.inl (e8 _ _ l7))) fun q9 H9 n9 e9 h9 => ?_
      rw [cut_mid_, ← List.map_drop, ← List.map_take] at h9
      tm_at "s"
      refine ⟨q9, _, rfl, .inl (.inl h9), fun q10 n10 => ?_⟩
      have e10 := ex_new (o := .lst (((ws.drop i).take 2).map V.str).reverse) n10
      have h10 : upd H9 q10 (.lst (((ws.drop i).take 2).map V.str).reverse) q10 = some (.lst (((ws.drop i).take 2).map V.str).reverse) := upd_same
      have e10 : Ex H9 (upd H9 q10 (.lst (((ws.drop i).take 2).map V.str).reverse)) := e10
      generalize upd H9 q10 (.lst (((ws.drop i).take 2).map V.str).reverse) = H10 at e10 h10 ⊢
      rw [← List.map_reverse] at h10
      refine s_addL (e10 _ _ (e9 _ _ h8)) h10 (sz4 (by simp; omega)) fun q11 H11 n11 e11 h11 => ?_
      tm_at "s"
      try rw [c2]
      refine s_slL (.inl (.inl ((e8.trans (e9.trans (e10.trans e11))) _ _ l7))) fun q12 H12 n12 e12 h12 => ?_
      rw [cut_from_, ← List.map_drop] at h12
      refine s_addL (e12 _ _ h11) h12 (sz4 (by simp; omega)) fun q13 H13 n13 e13 h13 => ?_
      have m3 : ∀ u ∈ ((ws.drop i).take 2).reverse, u ∈ ws := fun u hu => m2 i u (List.mem_of_mem_take (List.mem_reverse.mp hu))
      refine fin (ws.take i ++ ((ws.drop i).take 2).reverse ++ ws.drop (i + 2)) H13 q13 ((e8.trans (e9.trans (e10.trans e11))).trans (e12.trans e13)) (by rw [h13]; simp) (fun u hu => ?_) (by simp; omega) ?_
      · simp only [List.mem_append] at hu
        rcases hu with (hu | hu) | hu
        · exact .inl (m1 _ u hu)
        · exact .inl (m3 u hu)
        · exact .inl (m2 _ u hu)
      · rw [List.flatMap_append, List.flatMap_append, fl (m1 i), fl (m2 (i + 2)), fl m3]
        simp; omega
end
end K49
end
section
local macro_rules | `(tactic| tm_at "s1") => `(tactic| first
  | with_reducible first
    | refine L3.s_seq ?_ | refine L3.s_asg ?_ | refine L3.s_op ?_ | refine L3.s_c ?_ | refine L3.s_cb ?_ | refine L3.s_cons ?_ | refine L3.s_nil ?_ | refine L3.s_test ?_ | refine L3.s_bl ?_
    | refine L3.s_I0 ?_ | refine L3.s_and ?_ | refine L3.s_or ?_ | refine L3.s_not ?_ | refine L3.s_if ?_ | refine L3.s_next ?_ | refine L3.s_ret ?_ | refine L3.s_retN ?_ | refine L3.s_asgS ?_ | refine L3.s_drop ?_
    | refine L3.s_un ?_ | refine L3.s_U ?_ | refine L3.s_int ?_ | refine L3.s_intB ?_ | refine L3.s_abs ?_ | refine L3.s_andV ?_ | refine L3.s_orV ?_ | refine L3.s_notV ?_ | refine L3.s_ifE ?_ | refine L3.s_call ?_ | refine L3.s_lst ?_ | refine L3.s_tup ?_ | refine L3.s_tB ?_
    | refine L3.s_addI ?_ | refine L3.s_inS ?_ | refine L3.s_ninS ?_ | refine L3.s_slice ?_ | refine L3.s_part ?_ | refine L3.s_partI ?_ | refine L3.s_nopart ?_ | refine L3.s_cI ?_ | refine L3.s_cB ?_ | refine L3.s_chain ?_ | refine L3.s_bm ?_ | refine L3.s_lcS ?_ | refine L3.s_lcR ?_ | refine L3.s_strE ?_
    | refine L2.iteT ?_ | refine L2.iteF ?_ | refine L3.iteNF ?_ | refine L3.iteNT ?_
    | refine L3.s_eqI ?_ | refine L3.s_neI ?_ | refine L3.s_eqS ?_ | refine L3.s_neS ?_
    | refine L3.s_pair ?_ | refine L3.s_pair2 ?_ | refine L3.s_fld ?_ | refine L3.s_make ?_ | refine L3.s_m1 ?_ | refine L3.s_isstr ?_
    | refine L3.s_xfV ?_ | refine L3.s_lstN ?_ | refine L3.s_callF ?_ | refine L3.s_lcL ?_ | refine L3.s_par3 ?_ | refine L3.s_trip ?_ | refine L3.s_asgT' ?_ | refine L3.s_gC ?_ | refine L3.s_gN ?_ | refine L3.s_fldG ?_ | refine L3.s_raise1 ?_ | refine L3.s_raise2 ?_ | refine L3.s_star ?_ | refine L3.s_mkCR ?_ | refine L3.s_lcZ ?_ | refine L3.s_forL ?_ | refine L3.s_forT ?_ | refine L3.s_gNm ?_ | refine L3.s_forE ?_ | refine L3.s_stC ?_ | refine L3.s_cmC ?_ | refine L3.s_forR1 ?_ | refine L3.s_lcTp ?_ | refine L3.s_forZ ?_ | refine L3.s_orT ?_ | refine L3.s_mt ?_ | refine L3.s_revT ?_ | refine L3.s_revL ?_ | refine L3.s_slOwn ?_ | refine L3.s_sl3 ?_ | refine L3.s_lcO ?_ | refine L3.s_stR ?_
    | refine L3.s_isN ?_ | refine L3.s_isB ?_ | refine L3.s_nisN ?_ | refine L3.s_nisB ?_
  | ((with_reducible refine' L3.s_var ?e ?_); (case e => rfl))
  | ((with_reducible refine' L3.s_aug ?e ?_); (case e => rfl))
  | ((with_reducible refine' L3.s_pow ?c ?_); (case c => exact ⟨by decide, by decide, by decide⟩)))
local macro_rules | `(tactic| tm_at "s") => `(tactic| repeat tm_at "s1")
namespace K49
open PySem PySem.NumText PySem.Spec PyProof.Rows L2 L3 LamX RZ ClX
abbrev s_law : Stmt := topS 52
abbrev names_law : List Str := ["_law_script", "_law_pen_here", "_law_lap", "_law_page", "_law_again", "_law_odd", "_law_seven", "_law_some", "_law_wide", "_law_heard_here"]
theorem sc_law : FnScope ["_law_script", "_law_pen_here", "_law_lap", "_law_page", "_law_again", "_law_odd", "_law_seven", "_law_some", "_law_wide", "_law_heard_here"] ["_law_script"] (defScope s_law) := ⟨rfl, rfl, rfl, by decide +kernel, rfl, by decide +kernel, by decide +kernel⟩
abbrev lamQ2 : Str := (("law" : Str) ++ ".<locals>.") ++ "<lambda>"
def sevenS : Str := (repS "( " (6 : Int).toNat ++ "fixed 1") ++ repS " & fixed 2 )" (6 : Int).toNat
def pagesL : List Str := (["", " ", "fixed", "fixed 0", "divided 1", "divided 1 1", "divided 25 0 1", "divided 1 0 0", "( fixed 1"] : List Str) ++ (["( fixed 1 &", "( fixed 1 & fixed 2", "( fixed 1 )", "fixed 1 & fixed 2", "( ( fixed 1 ) )"] : List Str) ++ ([repS "( " (40 : Int).toNat, sevenS, "by", "fixed 1 ", "( fixed 1  fixed 2 )", "( fixed 1 &| fixed 2 )"] : List Str)
def erB (z : Str) : Bool := match rdR z with
  | .error _ => true
  | .ok _ => false
theorem er_of {z : Str} (h : erB z = true) : ∃ e, rdR z = .error e := by
  unfold erB at h
  split at h
  · exact ⟨_, by assumption⟩
  · cases h
def erI (z : Str) (n : Nat) : Bool := match rdR z with
  | .error e => e == n
  | .ok _ => false
theorem er_is {z : Str} {n : Nat} (h : erI z n = true) : rdR z = .error n := by
  unfold erI at h
  split at h
  · rename_i e he
    rw [he, show e = n by simpa using h]
  · cases h
def wideT : RT := .jn false (.jn true (.dv 1 0 24) (.dv 1 0 23)) (.dv 1 0 19)
def wideS : Str := "( ( divided 1 0 24 & divided 1 0 23 ) | divided 1 0 19 )"
section
variable {P : Program} {w : World} {K : PySem.W.Frag} {mg : Str → Option Value} {base : Heap} {C : RA} {CR0 CY CS CR CM CE CT CW CL : Addr}
def spLaw (K : PySem.W.Frag) (TT : List (Addr × Str)) : Sp := fun vs H Q _ => ∃ a ns, vs = [.ref a] ∧ SqL K H a (ns.map V.int) ∧ (ns : List Int).length ≤ 63 ∧ Tabs TT H ∧ ∀ H', Q (.bl true) H'
theorem ok_law {f c Pt : Addr} {fd : FuncData} (F : FunC K "law" "law" s_law c f fd) (TB : TabB base mg c Pt) {Tt : List (Addr × Str)} (hmT : (Pt, lamQ2) ∈ Tt) (huT : ∀ p ∈ Tt, p.1 = Pt → p.2 = lamQ2) (T : Txt K mg C CR0 CY CS CR CM CL) (F6 : Kit6 K mg CS CR CM CE CT CW CL) (FH : HeF K mg) (kFS : PySem.W.kitOne K (.ref C.f) (.type "str") = some false)
    (c__law_pen : Fn P w K mg base CX0 1 "_law_pen" ["_law_script"] (spPen K)) (c__law_draw : Fn P w K mg base CX0 1 "_law_draw" ["_law_pen_here", "_law_many"] spDraw) (c__law_pick : Fn P w K mg base CX0 2 "_law_pick" ["_law_pen_here", "_law_some"] spPick)
    (c__law_plain : Fn P w K mg base CX0 10 "_law_plain" ["_law_pen_here", "_law_many"] (spPlain 7)) (c__law_text : Fn P w K mg base CX0 8 "_law_text" ["_law_plain_here"] (spText 7)) (c__law_bent : Fn P w K mg base CX0 3 "_law_bent" ["_law_pen_here", "_law_page"] spBent)
    (c__law_due : Fn P w K mg base CX0 73 "_law_due" ["_law_page"] (spDue 70)) (c__law_read_right : Fn P w K mg base CX0 75 "_law_read_right" ["_law_page"] (spRdR Tt))
    (m_Fixed_1 : McO P w K mg base (L2.CX P w) 4 "Fixed" C.f ["self", "size"] (spFx C.f CS) []) (st_read : StM P w K mg base (L2.CX P w) 13 CR0 "read" ["text"] (spReadR K C CM CW)) :
    FnG P w K mg base CX0 77 f fd ["_law_script"] (spLaw K Tt) := by
  refine funGC F sc_law (fun vs H Q E h => ?_) (fun A fr s H vs Q E hr hg h => ?_)
  · obtain ⟨a, ns, rfl, _⟩ := h; rfl
  · obtain ⟨a, ns, rfl, hs, hl, ht, k⟩ := h
    refine ⟨_, (pss_cons (ps_set (i := 1) sc_law.nd rfl (Or.inl rfl) (pe_f (hk := by omega) c__law_pen hr hg pass0 (pa_cons (pv 0) pa_nil)))
      (pss_cons (ps_for (passes_of rfl) rfl (pi_range1 (by rfl) T.b_range (pa_cons pe_int pa_nil)) (pg_name (i := 2) sc_law.nd rfl (Or.inl rfl)) (pss_cons (ps_set (i := 3) sc_law.nd rfl (Or.inl rfl) (pe_f (hk := by omega) c__law_text hr hg pass0 (pa_cons (pe_f (hk := by omega) c__law_plain hr hg pass0 (pa_cons (pv 1) (pa_cons (pe_op opAdd pe_int (pe_f (hk := by omega) c__law_draw hr hg pass0 (pa_cons (pv 1) (pa_cons pe_int pa_nil)))) pa_nil))) pa_nil)))
      (pss_cons (ps_if (pt_not (pt_val (pe_f (hk := by omega) c__law_read_right hr hg pass0 (pa_cons (pv 3) pa_nil)))) (pss_one (ps_ret pe_bl)) pss_nil)
      (pss_cons (ps_for (passes_of rfl) rfl (pi_range1 (by rfl) T.b_range (pa_cons pe_int pa_nil)) (pg_name (i := 4) sc_law.nd rfl (Or.inl rfl)) (pss_cons (ps_set (i := 3) sc_law.nd rfl (Or.inl rfl) (pe_f (hk := by omega) c__law_bent hr hg pass0 (pa_cons (pv 1) (pa_cons (pv 3) pa_nil))))
      (pss_one (ps_if (pt_not (pt_val (pe_f (hk := by omega) c__law_read_right hr hg pass0 (pa_cons (pv 3) pa_nil)))) (pss_one (ps_ret pe_bl)) pss_nil))))
      (pss_cons (ps_set (i := 5) sc_law.nd rfl (Or.inr rfl) (pe_f (hk := by omega) c__law_pick hr hg pass0 (pa_cons (pv 1) (pa_cons (pe_lst (pa_cons pe_non (pa_cons pe_int (pa_cons pe_bl (pa_cons (pe_tup (pa_cons pe_str pa_nil)) (pa_cons (pe_lst (pa_cons pe_str pa_nil)) (pa_cons pe_dnewK (pa_cons (pe_mko m_Fixed_1 hr passF (pa_cons pe_int pa_nil)) pa_nil)))))))) pa_nil))))
      (pss_one (ps_if (pt_cmpR (KX.neU (K := K) rfl hr.units) (pe__law_heard FH T F6 TB hg hr hmT huT (lamS_by (sc := defScope s_law) (by decide +kernel)) (fun A outer s H E f c' hr' => (pe_st (hk := by omega) st_read hr' (passT (takes_of rfl rfl rfl rfl) (fun _ _ _ _ h => h)) (C8.pe_gc (by rfl) T.g_Rule) (pa_cons (pv 5) pa_nil)))) (pe_tup (pa_cons pe_str (pa_cons pe_int (pa_cons pe_int pa_nil)))) (nomark _)) (pss_one (ps_ret pe_bl)) pss_nil)))))))
      (pss_cons (ps_set (i := 6) sc_law.nd rfl (Or.inl rfl) (pe_op opAdd (pe_op opAdd (pe_op opMulSG pe_str pe_int) pe_str) (pe_op opMulSG pe_str pe_int)))
      (pss_cons (ps_set (i := 7) sc_law.nd rfl (Or.inl rfl) (pe_lst (pa_cons pe_str (pa_cons pe_str (pa_cons pe_str (pa_cons pe_str (pa_cons pe_str (pa_cons pe_str (pa_cons pe_str (pa_cons pe_str (pa_cons pe_str pa_nil)))))))))))
      (pss_cons (ps_set (i := 7) sc_law.nd rfl (Or.inl rfl) (pe_op opAdd (pv 7) (pe_lst (pa_cons pe_str (pa_cons pe_str (pa_cons pe_str (pa_cons pe_str (pa_cons pe_str pa_nil))))))))
      (pss_cons (ps_set (i := 7) sc_law.nd rfl (Or.inl rfl) (pe_op opAdd (pv 7) (pe_lst (pa_cons (pe_op opMulSG pe_str pe_int) (pa_cons (pv 6) (pa_cons pe_str (pa_cons pe_str (pa_cons pe_str (pa_cons pe_str pa_nil)))))))))
      (pss_cons (ps_if (pt_cmpR (KX.neU (K := K) rfl hr.units) (pe_lc (own := [("_law_page", 3)]) (g := gName 3) (by rfl) sc_law.nd (pi_list (pv 7)) (blkOk_by (own := [("_law_page", 3)]) (N := names_law) (sc := defScope s_law) (by decide +kernel)) (fun _ _ _ _ _ => pg_name (i := 3) sc_law.nd rfl (Or.inl rfl)) (fun _ _ _ _ _ => pts_one (PW.pt (pw_or (pt_cmpR opIs (pe_f (hk := by omega) c__law_due hr hg pass0 (pa_cons (pv 3) pa_nil)) pe_non (nomark _)) (pw_or1 (pt_not (pt_val (pe_f (hk := by omega) c__law_read_right hr hg pass0 (pa_cons (pv 3) pa_nil)))))))) (fun _ _ _ _ _ => (pv 3))) (pe_lst pa_nil) (nomark _)) (pss_one (ps_ret pe_bl)) pss_nil)
      (pss_cons (ps_set (i := 8) sc_law.nd rfl (Or.inr rfl) pe_str)
      (pss_cons (ps_set (i := 9) sc_law.nd rfl (Or.inl rfl) (pe_lst (pa_cons (pe__law_heard FH T F6 TB hg hr hmT huT (lamS_by (sc := defScope s_law) (by decide +kernel)) (fun A outer s H E f c' hr' => (pe_st (hk := by omega) st_read hr' (passT (takes_of rfl rfl rfl rfl) (fun _ _ _ _ h => h)) (C8.pe_gc (by rfl) T.g_Rule) (pa_cons (pv 8) pa_nil)))) pa_nil)))
      (pss_cons (ps_expr (pe_bm PySem.F.plainAttrs_list PySem.F.slot_list_append PySem.F.type_list_append mt_append (pv 9) (pa_cons (pe__law_heard FH T F6 TB hg hr hmT huT (lamS_by (sc := defScope s_law) (by decide +kernel)) (fun A outer s H E f c' hr' => (pe_st (hk := by omega) st_read hr' (passT (takes_of rfl rfl rfl rfl) (fun _ _ _ _ h => h)) (C8.pe_gc (by rfl) T.g_Rule) (pa_cons (pe_op opAdd (pv 8) pe_str) pa_nil)))) pa_nil)))
      (pss_one (ps_ret (pe_and (pe_cmpR (KX.eqU (K := K) rfl hr.units) (pv 9) (pe_lst (pa_cons (pe_tup (pa_cons pe_str (pa_cons pe_str (pa_cons pe_int pa_nil)))) (pa_cons (pe_tup (pa_cons pe_str (pa_cons pe_int (pa_cons pe_int pa_nil)))) pa_nil))) (nomark _)) (pe_one (pe_cmpR (KX.eqU (K := K) rfl hr.units) (pe_f (hk := by omega) c__law_due hr hg pass0 (pa_cons (pv 6) pa_nil)) (pe_op opAdd (pe_op opAdd (pe_op opAdd pe_int pe_int) (pe_op opMul pe_int pe_int)) pe_int) (nomark _)))))))))))))))), ?_⟩
    have so : PyData.strOk ("text" : Str) = true := by decide +kernel
    tm_at "s"
    refine ⟨a, ns, rfl, hs, hl, fun p H1 hp e1 p1 => ?_⟩
    have W1 : Wo Tt H1 p 0 := ⟨p1, ht.ext e1⟩
    clear p1 e1 ht hs
    try dsimp only
    tm_at "s"
    refine ⟨by decide, by decide, ?_⟩
    refine forRg (n := 7) (fun i σ H' => (∃ v2 v3 v4 v5, σ = [some (.ref a), some (.ref p), v2, v3, v4, v5, none, none, none, none]) ∧ ∃ m', m' ≤ 200 * i ∧ Wo Tt H' p m') ⟨⟨_, _, _, _, rfl⟩, 0, by omega, W1⟩ ?_ ?_
    · rintro i _ H2 hi ⟨⟨v2, v3, v4, v5, rfl⟩, m', hm', W2⟩
      refine s_gNm ?_
      try dsimp only
      tm_at "s"
      refine ⟨p, m', 7, rfl, by decide, lt8000s (by decide) (by decide), W2.pen, by unfold lim; omega, fun d H3 d0 d1 p3 k3 => ?_⟩
      obtain ⟨j, hj⟩ : ∃ j : Nat, 1 + d = ((j : Nat) : Int) := ⟨(1 + d).toNat, by omega⟩
      tm_at "s"
      rw [hj]
      refine ⟨p, m' + 1, j, rfl, by omega, by omega, by decide, p3, by unfold lim; omega, fun t v H4 m4 hm4 tok tn pl p4 k4 => ?_⟩
      tm_at "s"
      refine ⟨t, v, rfl, pl, tok, by omega, by omega, fun H5 e5 => ?_⟩
      have W5 := ((W2.keep p3 k3).keep p4 k4).ex e5
      have pw := Pw.text tok (by omega)
      generalize textT t = pg at pw
      clear pl p3 k3 p4 k4 e5 W2
      try dsimp only
      tm_at "s"
      refine ⟨pg, rfl, pw.mono (by decide), W5.tabs, fun H6 e6 t6 => ?_⟩
      have W6 := W5.exN e6 t6
      clear W5 e6 t6
      tm_at "s"
      refine ⟨by decide, by decide, ?_⟩
      refine forRg (n := 3) (fun i2 σ H' => (∃ v4 z, σ = [some (.ref a), some (.ref p), some (.int (0 + (i : Int))), some (.str z), v4, v5, none, none, none, none] ∧ Pw (46 + 4 * i2) z) ∧ ∃ m2, m2 ≤ m4 + 3 * i2 ∧ Wo Tt H' p m2) ⟨⟨_, _, rfl, pw⟩, m4, by omega, W6⟩ ?_ ?_
      · rintro i2 _ H7 hi2 ⟨⟨v4', z, rfl, pz⟩, m2, hm2, W7⟩
        refine s_gNm ?_
        try dsimp only
        tm_at "s"
        refine ⟨p, m2, 46 + 4 * i2, z, rfl, pz, by omega, by omega, W7.pen, by unfold lim; omega, fun y H8 m8 hm8 py k8 p8 => ?_⟩
        have W8 := W7.keep p8 k8
        try dsimp only
        tm_at "s"
        refine ⟨y, rfl, py.mono (by omega), W8.tabs, fun H9 e9 t9 => ?_⟩
        tm_at "s"
        exact ⟨⟨_, _, rfl, py.mono (by omega)⟩, m8, by omega, W8.exN e9 t9⟩
      · rintro _ H7 ⟨⟨v4', z, rfl, pz⟩, m2, hm2, W7⟩
        try dsimp only
        tm_at "s"
        refine s_new (Nat.le_of_lt (small1000 (by simp))) fun ta H8 n8 e8 h8 => ?_
        tm_at "s"
        refine s_new (Nat.le_of_lt (small1000 (by simp))) fun la H9 n9 e9 h9 => ?_
        tm_at "s"
        refine s_dnew fun dd H10 n10 e10 h10 => ?_
        tm_at "s"
        refine s_mkFx (dvs := []) ⟨by decide, by decide⟩ fun qf H11 n11 e11 r11 => ?_
        tm_at "s"
        refine s_new (Nat.le_of_lt (small1000 (by simp))) fun lz H12 n12 e12 h12 => ?_
        have E12 := e8.trans (e9.trans (e10.trans (e11.trans e12)))
        have W12 := W7.ex E12
        refine ⟨p, lz, m2, _, rfl, h12, by simp, by simp, W12.pen, by unfold lim; omega, fun v H13 hv p13 k13 => ?_⟩
        have W13 := W12.keep p13 k13
        have ta13 := tup_keep (e12 _ _ (e11 _ _ (e10 _ _ (e9 _ _ h8)))) W12.pen k13
        have la13 := lst_keep (e12 _ _ (e11 _ _ (e10 _ _ h9))) W12.pen k13
        have dd13 := dk_keep (e12 _ _ (e11 _ _ h10)) W12.pen k13
        have rf13 : RuAt C H13 (.fx 1) qf [qf] := RuAt.keep (t := .fx 1) ⟨rfl, r11.ex e12⟩ W12.pen k13
        have nc : NC K H13 (.type "str") v := by
          simp only [List.mem_cons, List.not_mem_nil, or_false] at hv
          rcases hv with rfl | rfl | rfl | rfl | rfl | rfl | rfl
          · exact ⟨_, .x (.base .non), kit_ty (by decide +kernel)⟩
          · exact ⟨_, .x (.base (.int _)), kit_ty (by decide +kernel)⟩
          · exact ⟨_, .x (.base (.bl _)), kit_ty (by decide +kernel)⟩
          · exact ⟨_, .x (.base (.tup ta13)), kit_ty (by decide +kernel)⟩
          · exact ⟨_, .x (.base (.lst la13)), kit_ty (by decide +kernel)⟩
          · exact ⟨_, .x (.base (.dK dd13)), kit_ty (by decide +kernel)⟩
          · exact ⟨_, .x (ru_ty T rf13), kFS⟩
        clear hv ta13 la13 dd13 rf13 k13 p13 W12 E12 e8 e9 e10 e11 e12 n8 n9 n10 n11 n12 h8 h9 h10 h12 r11 W7
        try dsimp only
        tm_at "s"
        refine s_hrTx (v1 := .int 0) (v2 := .int 0) W13.tabs (fun E1 Ha Q' ea ta rz => ?_) (fun r Hb eb tb hr' => ?_)
        · tm_at "s"
          exact ⟨v, rfl, .inr ⟨nc.exN ea, rz⟩⟩
        · try dsimp only
          tm_at "s"
          refine s_new (Nat.le_of_lt (small1000 (by simp))) fun u H14 n14 e14 h14 => ?_
          refine .inr (s_neD (dp3 (e14 _ _ hr')) (dp3 h14) (sh3 so _ _) (sh3 so _ _) ?_)
          rw [SeqAt.eqv_refl _ (SeqAt.canLay_of_shaped (sh3 so _ _))]
          tm_at "s"
          exact ⟨⟨_, _, _, _, rfl⟩, m2 + 1, by omega, (W13.exN eb tb).ex e14⟩
    · rintro _ H2 ⟨⟨v2, v3, v4, v5, rfl⟩, m', hm', W2⟩
      clear W1
      try dsimp only
      tm_at "s"
      refine s_mulSG (by decide) (by decide) (by decide) (by decide) ?_
      refine s_addS (by decide +kernel) ?_
      tm_at "s"
      refine s_mulSG (by decide) (by decide) (by decide) (by decide) ?_
      refine s_addS (by decide +kernel) ?_
      try dsimp only
      tm_at "s"
      refine s_new (Nat.le_of_lt (small1000 (by simp))) fun la H3 n3 e3 h3 => ?_
      try dsimp only
      tm_at "s"
      refine s_new (Nat.le_of_lt (small1000 (by simp))) fun lb H4 n4 e4 h4 => ?_
      refine s_addL (e4 _ _ h3) h4 (by decide) fun lc H5 n5 e5 h5 => ?_
      try dsimp only
      tm_at "s"
      refine s_mulSG (by decide) (by decide) (by decide) (by decide) ?_
      tm_at "s"
      refine s_new (Nat.le_of_lt (small1000 (by simp))) fun ld H6 n6 e6 h6 => ?_
      refine s_addL (e6 _ _ h5) h6 (by decide) fun le H7 n7 e7 h7 => ?_
      have h7 : H7 le = some (.lst (pagesL.map V.str)) := h7
      have W7 := W2.ex (e3.trans (e4.trans (e5.trans (e6.trans e7))))
      clear h3 h4 h5 h6 n3 n4 n5 n6 n7 e3 e4 e5 e6 e7 W2
      try dsimp only
      tm_at "s"
      have hall : (pagesL.all fun y => erB y && pwB 70 y) = true := by decide +kernel
      refine ⟨le, rfl, ⟨_, .inl (.inl h7)⟩, lcNone h7 W7.tabs (fun _ => rfl) (fun x hx Ha R ea ta r => ?_) fun D Hb eb tb hD => ?_⟩
      · obtain ⟨y, hy, rfl⟩ := List.mem_map.mp hx
        have hy2 := List.all_eq_true.mp hall y hy
        simp only [Bool.and_eq_true] at hy2
        obtain ⟨e, he⟩ := er_of hy2.1
        have pw := pw_of hy2.2
        tm_at "s"
        refine ⟨y, rfl, pw, by decide, fun e2 he2 Hc ec => ?_, fun h => by rw [he] at h; cases h⟩
        tm_at "s"
        refine iteD (fun z => nomatch z) (fun _ => ?_)
        tm_at "s"
        refine ⟨y, rfl, pw, ta.ext ec, fun Hd ed td => ?_⟩
        tm_at "s"
        exact r Hd (ec.n.trans ed) td
      · clear hall
        tm_at "s"
        refine s_new (Nat.le_of_lt (small1000 (by simp))) fun lq H8 n8 e8 h8 => ?_
        refine .inr (s_neD (.lst (.inl (.inl (e8 _ _ hD))) .nil) (.lst (.inl (.inl h8)) .nil) rfl rfl ?_)
        rw [SeqAt.eqv_refl _ rfl]
        have t8 := tb.ext e8
        have w1 : wideT.ok := ⟨⟨⟨by decide, by decide, by decide⟩, ⟨by decide, by decide, by decide⟩⟩, ⟨by decide, by decide, by decide⟩⟩
        tm_at "s"
        refine s_hrMy (v1 := .str "residues") (v2 := .int 5000) t8 (fun E1 Hc Q' ec tc rz => ?_) (fun g1 Hc ec tc h1 => ?_)
        · tm_at "s"
          exact ⟨_, rfl, .inl ⟨wideS, rfl, by decide, .inr ⟨wideT, w1, by decide, by decide +kernel, .inr ⟨by decide +kernel, rz⟩⟩⟩⟩
        tm_at "s"
        refine s_new (Nat.le_of_lt (small1000 (by simp))) fun hh H9 n9 e9 h9 => ?_
        have A1 : HdAt H9 hh [[.str "many", .str "residues", .int 5000]] := .one h9 (e9 _ _ h1)
        have t9 := tc.ext e9
        clear h1 h9 e9 n9 ec tc t8 eb tb hD h8 e8 n8
        try dsimp only
        tm_at "s"
        refine A1.sq ?_
        tm_at "s"
        refine s_hrTx (v1 := .int 0) (v2 := .int 18) t9 (fun E1 Hc Q' ec tc rz => ?_) (fun g2 Hc ec tc h2 => ?_)
        · tm_at "s"
          refine s_addS (by decide +kernel) ?_
          tm_at "s"
          exact ⟨_, rfl, .inl ⟨wideS ++ " 5", rfl, by decide +kernel, .inl ⟨18, er_is (by decide +kernel), rz⟩⟩⟩
        tm_at "s"
        refine (A1.exN ec).put (show 1 < 900 by decide) h2 fun H10 k10 w10 A2 => ?_
        try dsimp only
        tm_at "s"
        refine s_new (Nat.le_of_lt (small1000 (by simp))) fun c1 K1 m1 f1 j1 => ?_
        tm_at "s"
        refine s_new (Nat.le_of_lt (small1000 (by simp))) fun c2 K2 m2 f2 j2 => ?_
        tm_at "s"
        refine s_new (Nat.le_of_lt (small1000 (by simp))) fun c3 K3 m3 f3 j3 => ?_
        have A4 := A2.ex (f1.trans (f2.trans f3))
        obtain ⟨qs, a1, a2⟩ := A4
        match qs, a1, a2 with
        | [q1, q2], a1, ⟨b1, b2, _⟩ =>
          have D1 : Dp K K3 (.ref hh) (.list [myD, .tuple [.str "text", .int 0, .int 18]]) := .lst (.inl (.inl a1)) (.cons (dpMy b1) (.cons (dp3 b2) .nil))
          have D2 : Dp K K3 (.ref c3) (.list [myD, .tuple [.str "text", .int 0, .int 18]]) := .lst (.inl (.inl j3)) (.cons (dpMy (f3 _ _ (f2 _ _ j1))) (.cons (dp3 (f3 _ _ j2)) .nil))
          refine .inr (s_eqD D1 D2 (by decide +kernel) (by decide +kernel) ?_)
          rw [SeqAt.eqv_refl _ (by decide +kernel)]
          tm_at "s"
          have h29 : rdR sevenS = .error 29 := er_is (by decide +kernel)
          refine ⟨sevenS, rfl, pw_of (by decide +kernel), by decide, fun e he Hz ez => ?_, fun h => by rw [h29] at h; cases h⟩
          obtain rfl : e = 29 := by rw [h29] at he; cases he; rfl
          tm_at "s"
          refine s_mulI (mulL ⟨by decide, by decide⟩) ?_
          tm_at "s"
          exact k _
end
end K49
end
section
namespace K49
open PySem PySem.Spec PyProof.Rows L2 L3 LamX
abbrev s_BadSize___init__ : Stmt := inClass (topS 9) 0
theorem ns_BadSize : NdefX.NScope ["self", "value", "__class__"] ["self", "value"] ["__class__"] (defScope s_BadSize___init__) := NdefX.nscope_by (by decide +kernel)
theorem ok_BadSize {P : Program} {w : World} {K : PySem.W.Frag} {mg : Str → Option Value} {base : Heap} {C f cda cc : Addr} {kV doc pm ct oc : Value} {an od : Option Addr} {osl : Array (Option Value)}
    (lk : K.lookup f = some ⟨oc, od, .func (PySem.W.fnX "__init__" "BadSize.__init__" (defArgs s_BadSize___init__) (defBody s_BadSize___init__) (defScope s_BadSize___init__) [("__class__", cc)] .none kV doc pm an (.ref cda) ct), osl⟩) (hcd : PySem.W.codeIn K (.ref cda) "BadSize.__init__" = true)
    (T : SupF P K mg C f cda cc (defScope s_BadSize___init__)) (n1 : PySem.W.findIn K (.ref C) "value" = some none) :
    FnOk P w K mg base CX0 1 f (PySem.W.fnX "__init__" "BadSize.__init__" (defArgs s_BadSize___init__) (defBody s_BadSize___init__) (defScope s_BadSize___init__) [("__class__", cc)] .none kV doc pm an (.ref cda) ct) ["self", "value"] (spErr1 C "value") :=
  okErr1 (g1 := "value") (x := "value") rfl lk hcd T ns_BadSize rfl rfl (fun env _ => ⟨_, rfl⟩) (by decide) (by decide) n1 (fun env _ => rfl)
abbrev s_BadRule___init__ : Stmt := inClass (topS 12) 0
theorem ns_BadRule : NdefX.NScope ["self", "part", "__class__"] ["self", "part"] ["__class__"] (defScope s_BadRule___init__) := NdefX.nscope_by (by decide +kernel)
theorem ok_BadRule {P : Program} {w : World} {K : PySem.W.Frag} {mg : Str → Option Value} {base : Heap} {C f cda cc : Addr} {kV doc pm ct oc : Value} {an od : Option Addr} {osl : Array (Option Value)}
    (lk : K.lookup f = some ⟨oc, od, .func (PySem.W.fnX "__init__" "BadRule.__init__" (defArgs s_BadRule___init__) (defBody s_BadRule___init__) (defScope s_BadRule___init__) [("__class__", cc)] .none kV doc pm an (.ref cda) ct), osl⟩) (hcd : PySem.W.codeIn K (.ref cda) "BadRule.__init__" = true)
    (T : SupF P K mg C f cda cc (defScope s_BadRule___init__)) (n1 : PySem.W.findIn K (.ref C) "part" = some none) :
    FnOk P w K mg base CX0 1 f (PySem.W.fnX "__init__" "BadRule.__init__" (defArgs s_BadRule___init__) (defBody s_BadRule___init__) (defScope s_BadRule___init__) [("__class__", cc)] .none kV doc pm an (.ref cda) ct) ["self", "part"] (spErr1 C "part") :=
  okErr1 (g1 := "part") (x := "part") rfl lk hcd T ns_BadRule rfl rfl (fun env _ => ⟨_, rfl⟩) (by decide) (by decide) n1 (fun env _ => rfl)
abbrev s_TooMany___init__ : Stmt := inClass (topS 14) 0
theorem ns_TooMany : NdefX.NScope ["self", "what", "most", "__class__"] ["self", "what", "most"] ["__class__"] (defScope s_TooMany___init__) := NdefX.nscope_by (by decide +kernel)
theorem ok_TooMany {P : Program} {w : World} {K : PySem.W.Frag} {mg : Str → Option Value} {base : Heap} {C f cda cc : Addr} {kV doc pm ct oc : Value} {an od : Option Addr} {osl : Array (Option Value)}
    (lk : K.lookup f = some ⟨oc, od, .func (PySem.W.fnX "__init__" "TooMany.__init__" (defArgs s_TooMany___init__) (defBody s_TooMany___init__) (defScope s_TooMany___init__) [("__class__", cc)] .none kV doc pm an (.ref cda) ct), osl⟩) (hcd : PySem.W.codeIn K (.ref cda) "TooMany.__init__" = true)
    (T : SupF P K mg C f cda cc (defScope s_TooMany___init__)) (n1 : PySem.W.findIn K (.ref C) "what" = some none) (n2 : PySem.W.findIn K (.ref C) "most" = some none) :
    FnOk P w K mg base CX0 1 f (PySem.W.fnX "__init__" "TooMany.__init__" (defArgs s_TooMany___init__) (defBody s_TooMany___init__) (defScope s_TooMany___init__) [("__class__", cc)] .none kV doc pm an (.ref cda) ct) ["self", "what", "most"] (spErr2 C "what" "most") :=
  okErr2 (g1 := "what") (g2 := "most") (x := "what") (y := "most") rfl lk hcd T ns_TooMany rfl rfl (fun env _ => ⟨_, rfl⟩) (by decide) (by decide) (by decide) (by decide) n1 n2 (fun env _ => rfl) (fun env _ => rfl)
abbrev s_BadRest___init__ : Stmt := inClass (topS 11) 0
abbrev s_BadTotal___init__ : Stmt := inClass (topS 10) 0
abbrev s_BadText___init__ : Stmt := inClass (topS 13) 0
theorem ns_BadText : NdefX.NScope ["self", "line", "word", "__class__"] ["self", "line", "word"] ["__class__"] (defScope s_BadText___init__) := NdefX.nscope_by (by decide +kernel)
theorem ok_BadText {P : Program} {w : World} {K : PySem.W.Frag} {mg : Str → Option Value} {base : Heap} {C f cda cc : Addr} {kV doc pm ct oc : Value} {an od : Option Addr} {osl : Array (Option Value)}
    (lk : K.lookup f = some ⟨oc, od, .func (PySem.W.fnX "__init__" "BadText.__init__" (defArgs s_BadText___init__) (defBody s_BadText___init__) (defScope s_BadText___init__) [("__class__", cc)] .none kV doc pm an (.ref cda) ct), osl⟩) (hcd : PySem.W.codeIn K (.ref cda) "BadText.__init__" = true)
    (T : SupF P K mg C f cda cc (defScope s_BadText___init__)) (n1 : PySem.W.findIn K (.ref C) "line" = some none) (n2 : PySem.W.findIn K (.ref C) "word" = some none) :
    FnOk P w K mg base CX0 1 f (PySem.W.fnX "__init__" "BadText.__init__" (defArgs s_BadText___init__) (defBody s_BadText___init__) (defScope s_BadText___init__) [("__class__", cc)] .none kV doc pm an (.ref cda) ct) ["self", "line", "word"] (spErr2 C "line" "word") :=
  okErr2 (g1 := "line") (g2 := "word") (x := "line") (y := "word") rfl lk hcd T ns_BadText rfl rfl (fun env _ => ⟨_, rfl⟩) (by decide) (by decide) (by decide) (by decide) n1 n2 (fun env _ => rfl) (fun env _ => rfl)
end K49
end
section
namespace K49
open PySem PySem.Spec PyProof.Rows L2 L3 LamX
theorem fnMk {P : Program} {w : World} {K : PySem.W.Frag} {mg : Str → Option Value} {base : Heap} {CX : CXT} {k : Nat} {x qual : Str} {st : Stmt} {f : Addr} {fd : FuncData} {ps : List Str} {sp : Sp} (F : Fun K x qual st f fd) (ok : FnG P w K mg base CX k f fd ps sp) (m : mg x = some (.ref f))
    (hb : ∀ (kV doc pm : Value) (an : Option Addr) (cdv ct : Value) (us : List Value), us.length = ps.length → bindArgs (PySem.W.fnOf x qual (defArgs st) (defBody st) (defScope st) .none kV doc pm an cdv ct) ⟨us, []⟩ = pure (ps.zip us))
    (hk : ∀ (kV doc pm : Value) (an : Option Addr) (cdv ct : Value) (us : List Value), us.length = ps.length → bindArgs (PySem.W.fnOf x qual (defArgs st) (defBody st) (defScope st) .none kV doc pm an cdv ct) ⟨[], ps.zip us⟩ = pure (ps.zip us)) : Fn P w K mg base CX k x ps sp := by
  have kp := F.kp
  obtain ⟨oc, od, kV, doc, pm, an, cd, ct, sl, rfl, lk, hcd⟩ := F.ex
  exact ⟨⟨f, _, ok, m, kp, .all (hb kV doc pm an cd ct), fun s ws _ hl => .of_eq (hk kV doc pm an cd ct ws hl)⟩⟩
theorem bMk {K : PySem.W.Frag} {x qual : Str} {st : Stmt} {f : Addr} {fd : FuncData} {ps : List Str} (F : Fun K x qual st f fd)
    (hb : ∀ (kV doc pm : Value) (an : Option Addr) (cdv ct : Value) (us : List Value), us.length = ps.length → bindArgs (PySem.W.fnOf x qual (defArgs st) (defBody st) (defScope st) .none kV doc pm an cdv ct) ⟨us, []⟩ = pure (ps.zip us)) : L2.Binds K fd ps [] := by
  obtain ⟨oc, od, kV, doc, pm, an, cd, ct, sl, rfl, lk, hcd⟩ := F.ex
  exact .all (hb kV doc pm an cd ct)
theorem bkMk {K : PySem.W.Frag} {x qual : Str} {st : Stmt} {f : Addr} {fd : FuncData} {ps : List Str} (F : Fun K x qual st f fd)
    (hk : ∀ (kV doc pm : Value) (an : Option Addr) (cdv ct : Value) (us : List Value), us.length = ps.length → bindArgs (PySem.W.fnOf x qual (defArgs st) (defBody st) (defScope st) .none kV doc pm an cdv ct) ⟨[], ps.zip us⟩ = pure (ps.zip us)) : ∀ (s : Shared) (ws : List Value), K.In s.heap → ws.length = ps.length → BindsTo s fd ⟨[], ps.zip ws⟩ (ps.zip ws) := by
  obtain ⟨oc, od, kV, doc, pm, an, cd, ct, sl, rfl, lk, hcd⟩ := F.ex
  exact fun s ws _ hl => .of_eq (hk kV doc pm an cd ct ws hl)
theorem tab0 {H : Hp} {Pt : Addr} {q : Str} (h : H Pt = some (.tbl #[])) : TabS H Pt q := ⟨#[], h, trivial, fun pos cv hc => nomatch hc⟩
theorem tt_uniq : ∀ {ps : List (Addr × Str)} (h : (ps.map (·.1)).Nodup) {p q : Addr × Str} (hp : p ∈ ps) (hq : q ∈ ps) (e : p.1 = q.1), p.2 = q.2
  | [], _, _, _, hp, _, _ => nomatch hp
  | a :: r, h, p, q, hp, hq, e => by
    rw [List.map_cons, List.nodup_cons] at h
    rcases List.mem_cons.mp hp with e1 | hp1
    · rcases List.mem_cons.mp hq with e2 | hq1
      · rw [e1, e2]
      · exact (h.1 (List.mem_map.mpr ⟨q, hq1, by rw [← e1, e]⟩)).elim
    · rcases List.mem_cons.mp hq with e2 | hq1
      · exact (h.1 (List.mem_map.mpr ⟨p, hp1, by rw [← e2, e]⟩)).elim
      · exact tt_uniq h.2 hp1 hq1 e
theorem all_mk {l : PySem.W.OpenLaw} {w : World} {K : PySem.W.Frag} {h : Heap} {mg : Str → Option Value} {fa AF AD AL AG CR0 CL CS CR CM CE CT CW ct0 Pt ctt1 Pt1 : Addr} (X : K.In h) (G : h.Ns mainGlobals mg) (hfa : mg "law" = some (.ref fa))
    {f1 : Addr} {od1 an1 : Option Addr} {sl1 : Array (Option Value)} {oc1 kV1 dc1 pm1 cd1 ct1 : Value}
    {f2 : Addr} {od2 an2 : Option Addr} {sl2 : Array (Option Value)} {oc2 kV2 dc2 pm2 cd2 ct2 : Value}
    {f3 : Addr} {od3 an3 : Option Addr} {sl3 : Array (Option Value)} {oc3 kV3 dc3 pm3 cd3 ct3 : Value}
    {f4 : Addr} {od4 an4 : Option Addr} {sl4 : Array (Option Value)} {oc4 kV4 dc4 pm4 cd4 ct4 : Value}
    {f5 : Addr} {od5 an5 : Option Addr} {sl5 : Array (Option Value)} {oc5 kV5 dc5 pm5 cd5 ct5 : Value}
    {f6 : Addr} {od6 an6 : Option Addr} {sl6 : Array (Option Value)} {oc6 kV6 dc6 pm6 cd6 ct6 : Value}
    {f7 : Addr} {od7 an7 : Option Addr} {sl7 : Array (Option Value)} {oc7 kV7 dc7 pm7 cd7 ct7 : Value}
    {f8 : Addr} {od8 an8 : Option Addr} {sl8 : Array (Option Value)} {oc8 kV8 dc8 pm8 cd8 ct8 : Value}
    {f9 : Addr} {od9 an9 : Option Addr} {sl9 : Array (Option Value)} {oc9 kV9 dc9 pm9 cd9 ct9 : Value}
    {f10 : Addr} {od10 an10 : Option Addr} {sl10 : Array (Option Value)} {oc10 kV10 dc10 pm10 cd10 ct10 : Value}
    {f11 : Addr} {od11 an11 : Option Addr} {sl11 : Array (Option Value)} {oc11 kV11 dc11 pm11 cd11 ct11 : Value}
    {f12 : Addr} {od12 an12 : Option Addr} {sl12 : Array (Option Value)} {oc12 kV12 dc12 pm12 cd12 ct12 : Value}
    {f13 : Addr} {od13 an13 : Option Addr} {sl13 : Array (Option Value)} {oc13 kV13 dc13 pm13 cd13 ct13 : Value}
    {f14 : Addr} {od14 an14 : Option Addr} {sl14 : Array (Option Value)} {oc14 kV14 dc14 pm14 cd14 ct14 : Value}
    {f15 : Addr} {od15 an15 : Option Addr} {sl15 : Array (Option Value)} {oc15 kV15 dc15 pm15 cd15 ct15 : Value}
    {f16 : Addr} {od16 an16 : Option Addr} {sl16 : Array (Option Value)} {oc16 kV16 dc16 pm16 cd16 ct16 : Value}
    {f17 : Addr} {od17 an17 : Option Addr} {sl17 : Array (Option Value)} {oc17 kV17 dc17 pm17 cd17 ct17 : Value}
    {f18 : Addr} {od18 an18 : Option Addr} {sl18 : Array (Option Value)} {oc18 kV18 dc18 pm18 cd18 ct18 : Value}
    {f19 : Addr} {od19 an19 : Option Addr} {sl19 : Array (Option Value)} {oc19 kV19 dc19 pm19 cd19 ct19 : Value}
    {f20 : Addr} {od20 an20 : Option Addr} {sl20 : Array (Option Value)} {oc20 kV20 dc20 pm20 cd20 ct20 : Value}
    {f21 : Addr} {od21 an21 : Option Addr} {sl21 : Array (Option Value)} {oc21 kV21 dc21 pm21 cd21 ct21 : Value}
    {f22 : Addr} {od22 an22 : Option Addr} {sl22 : Array (Option Value)} {oc22 kV22 dc22 pm22 cd22 ct22 : Value}
    {f23 : Addr} {od23 an23 : Option Addr} {sl23 : Array (Option Value)} {oc23 kV23 dc23 pm23 ct23 : Value}
    {f24 : Addr} {od24 an24 : Option Addr} {sl24 : Array (Option Value)} {oc24 kV24 dc24 pm24 cd24 ct24 : Value}
    {f25 : Addr} {od25 an25 : Option Addr} {sl25 : Array (Option Value)} {oc25 kV25 dc25 pm25 ct25 : Value}
    {g_AF___init__ : Addr} {od_AF___init__ an_AF___init__ : Option Addr} {sl_AF___init__ : Array (Option Value)} {oc_AF___init__ kV_AF___init__ dc_AF___init__ pm_AF___init__ cd_AF___init__ ct_AF___init__ : Value}
    {g_AF___str__ : Addr} {od_AF___str__ an_AF___str__ : Option Addr} {sl_AF___str__ : Array (Option Value)} {oc_AF___str__ kV_AF___str__ dc_AF___str__ pm_AF___str__ cd_AF___str__ ct_AF___str__ : Value}
    {g_AD___init__ : Addr} {od_AD___init__ an_AD___init__ : Option Addr} {sl_AD___init__ : Array (Option Value)} {oc_AD___init__ kV_AD___init__ dc_AD___init__ pm_AD___init__ cd_AD___init__ ct_AD___init__ : Value}
    {g_AD___str__ : Addr} {od_AD___str__ an_AD___str__ : Option Addr} {sl_AD___str__ : Array (Option Value)} {oc_AD___str__ kV_AD___str__ dc_AD___str__ pm_AD___str__ cd_AD___str__ ct_AD___str__ : Value}
    {g_AL___init__ : Addr} {od_AL___init__ an_AL___init__ : Option Addr} {sl_AL___init__ : Array (Option Value)} {oc_AL___init__ kV_AL___init__ dc_AL___init__ pm_AL___init__ cd_AL___init__ ct_AL___init__ : Value}
    {g_AL___str__ : Addr} {od_AL___str__ an_AL___str__ : Option Addr} {sl_AL___str__ : Array (Option Value)} {oc_AL___str__ kV_AL___str__ dc_AL___str__ pm_AL___str__ cd_AL___str__ ct_AL___str__ : Value}
    {g_AG___init__ : Addr} {od_AG___init__ an_AG___init__ : Option Addr} {sl_AG___init__ : Array (Option Value)} {oc_AG___init__ kV_AG___init__ dc_AG___init__ pm_AG___init__ cd_AG___init__ ct_AG___init__ : Value}
    {g_AG___str__ : Addr} {od_AG___str__ an_AG___str__ : Option Addr} {sl_AG___str__ : Array (Option Value)} {oc_AG___str__ kV_AG___str__ dc_AG___str__ pm_AG___str__ cd_AG___str__ ct_AG___str__ : Value}
    {p_CR0_read : Addr} {rest_CR0_read : List Value}
    {g_CR0_read : Addr} {od_CR0_read an_CR0_read : Option Addr} {sl_CR0_read : Array (Option Value)} {oc_CR0_read kV_CR0_read dc_CR0_read pm_CR0_read cd_CR0_read ct_CR0_read : Value}
    {fZS ccZS cdZS : Addr} {odZS anZS cldZS cddZS : Option Addr} {slZS cslZS ccsZS : Array (Option Value)} {ocZS kVZS dcZS pmZS ctZS clZS cclZS : Value} {vsZS : Array Value} {fileZS : Str} {tfZS : Tok}
    {fZR ccZR cdZR : Addr} {odZR anZR cldZR cddZR : Option Addr} {slZR cslZR ccsZR : Array (Option Value)} {ocZR kVZR dcZR pmZR ctZR clZR cclZR : Value} {vsZR : Array Value} {fileZR : Str} {tfZR : Tok}
    {fZM ccZM cdZM : Addr} {odZM anZM cldZM cddZM : Option Addr} {slZM cslZM ccsZM : Array (Option Value)} {ocZM kVZM dcZM pmZM ctZM clZM cclZM : Value} {vsZM : Array Value} {fileZM : Str} {tfZM : Tok}
    {fZE ccZE cdZE : Addr} {odZE anZE cldZE cddZE : Option Addr} {slZE cslZE ccsZE : Array (Option Value)} {ocZE kVZE dcZE pmZE ctZE clZE cclZE : Value} {vsZE : Array Value} {fileZE : Str} {tfZE : Tok}
    {fZT ccZT cdZT : Addr} {odZT anZT cldZT cddZT : Option Addr} {slZT cslZT ccsZT : Array (Option Value)} {ocZT kVZT dcZT pmZT ctZT clZT cclZT : Value} {vsZT : Array Value} {fileZT : Str} {tfZT : Tok}
    {fZW ccZW cdZW : Addr} {odZW anZW cldZW cddZW : Option Addr} {slZW cslZW ccsZW : Array (Option Value)} {ocZW kVZW dcZW pmZW ctZW clZW cclZW : Value} {vsZW : Array Value} {fileZW : Str} {tfZW : Tok}
    {tMS tMD tMA tMP tMR : Tok}
    {tMF : Tok}
    (a1 : PySem.W.nsIn K mainGlobals "is_integer" = some (some (.ref f1)))
    (l1 : K.lookup f1 = some ⟨oc1, od1, .func (PySem.W.fnOf "is_integer" "is_integer" (defArgs s_is_integer) (defBody s_is_integer) (defScope s_is_integer) .none kV1 dc1 pm1 an1 cd1 ct1), sl1⟩)
    (c1 : PySem.W.codeIn K cd1 "is_integer" = true)
    (k1 : PySem.W.keepIn K (.ref f1) = true)
    (a2 : PySem.W.nsIn K mainGlobals "is_within" = some (some (.ref f2)))
    (l2 : K.lookup f2 = some ⟨oc2, od2, .func (PySem.W.fnOf "is_within" "is_within" (defArgs s_is_within) (defBody s_is_within) (defScope s_is_within) .none kV2 dc2 pm2 an2 cd2 ct2), sl2⟩)
    (c2 : PySem.W.codeIn K cd2 "is_within" = true)
    (k2 : PySem.W.keepIn K (.ref f2) = true)
    (a3 : PySem.W.nsIn K mainGlobals "is_size" = some (some (.ref f3)))
    (l3 : K.lookup f3 = some ⟨oc3, od3, .func (PySem.W.fnOf "is_size" "is_size" (defArgs s_is_size) (defBody s_is_size) (defScope s_is_size) .none kV3 dc3 pm3 an3 cd3 ct3), sl3⟩)
    (c3 : PySem.W.codeIn K cd3 "is_size" = true)
    (k3 : PySem.W.keepIn K (.ref f3) = true)
    (a4 : PySem.W.nsIn K mainGlobals "is_joinable" = some (some (.ref f4)))
    (l4 : K.lookup f4 = some ⟨oc4, od4, .func (PySem.W.fnOf "is_joinable" "is_joinable" (defArgs s_is_joinable) (defBody s_is_joinable) (defScope s_is_joinable) .none kV4 dc4 pm4 an4 cd4 ct4), sl4⟩)
    (c4 : PySem.W.codeIn K cd4 "is_joinable" = true)
    (k4 : PySem.W.keepIn K (.ref f4) = true)
    (a5 : PySem.W.nsIn K mainGlobals "need_joined" = some (some (.ref f5)))
    (l5 : K.lookup f5 = some ⟨oc5, od5, .func (PySem.W.fnOf "need_joined" "need_joined" (defArgs s_need_joined) (defBody s_need_joined) (defScope s_need_joined) .none kV5 dc5 pm5 an5 cd5 ct5), sl5⟩)
    (c5 : PySem.W.codeIn K cd5 "need_joined" = true)
    (k5 : PySem.W.keepIn K (.ref f5) = true)
    (a6 : PySem.W.nsIn K mainGlobals "is_figures" = some (some (.ref f6)))
    (l6 : K.lookup f6 = some ⟨oc6, od6, .func (PySem.W.fnOf "is_figures" "is_figures" (defArgs s_is_figures) (defBody s_is_figures) (defScope s_is_figures) .none kV6 dc6 pm6 an6 cd6 ct6), sl6⟩)
    (c6 : PySem.W.codeIn K cd6 "is_figures" = true)
    (k6 : PySem.W.keepIn K (.ref f6) = true)
    (a7 : PySem.W.nsIn K mainGlobals "number_of" = some (some (.ref f7)))
    (l7 : K.lookup f7 = some ⟨oc7, od7, .func (PySem.W.fnOf "number_of" "number_of" (defArgs s_number_of) (defBody s_number_of) (defScope s_number_of) .none kV7 dc7 pm7 an7 cd7 ct7), sl7⟩)
    (c7 : PySem.W.codeIn K cd7 "number_of" = true)
    (k7 : PySem.W.keepIn K (.ref f7) = true)
    (a8 : PySem.W.nsIn K mainGlobals "word_at" = some (some (.ref f8)))
    (l8 : K.lookup f8 = some ⟨oc8, od8, .func (PySem.W.fnOf "word_at" "word_at" (defArgs s_word_at) (defBody s_word_at) (defScope s_word_at) .none kV8 dc8 pm8 an8 cd8 ct8), sl8⟩)
    (c8 : PySem.W.codeIn K cd8 "word_at" = true)
    (k8 : PySem.W.keepIn K (.ref f8) = true)
    (a9 : PySem.W.nsIn K mainGlobals "need_numbers" = some (some (.ref f9)))
    (l9 : K.lookup f9 = some ⟨oc9, od9, .func (PySem.W.fnOf "need_numbers" "need_numbers" (defArgs s_need_numbers) (defBody s_need_numbers) (defScope s_need_numbers) .none kV9 dc9 pm9 an9 cd9 ct9), sl9⟩)
    (c9 : PySem.W.codeIn K cd9 "need_numbers" = true)
    (k9 : PySem.W.keepIn K (.ref f9) = true)
    (a10 : PySem.W.nsIn K mainGlobals "bounds_of" = some (some (.ref f10)))
    (l10 : K.lookup f10 = some ⟨oc10, od10, .func (PySem.W.fnOf "bounds_of" "bounds_of" (defArgs s_bounds_of) (defBody s_bounds_of) (defScope s_bounds_of) .none kV10 dc10 pm10 an10 cd10 ct10), sl10⟩)
    (c10 : PySem.W.codeIn K cd10 "bounds_of" = true)
    (k10 : PySem.W.keepIn K (.ref f10) = true)
    (a11 : PySem.W.nsIn K mainGlobals "rule_end" = some (some (.ref f11)))
    (l11 : K.lookup f11 = some ⟨oc11, od11, .func (PySem.W.fnOf "rule_end" "rule_end" (defArgs s_rule_end) (defBody s_rule_end) (defScope s_rule_end) .none kV11 dc11 pm11 an11 cd11 ct11), sl11⟩)
    (c11 : PySem.W.codeIn K cd11 "rule_end" = true)
    (k11 : PySem.W.keepIn K (.ref f11) = true)
    (a12 : PySem.W.nsIn K mainGlobals "rule_told" = some (some (.ref f12)))
    (l12 : K.lookup f12 = some ⟨oc12, od12, .func (PySem.W.fnOf "rule_told" "rule_told" (defArgs s_rule_told) (defBody s_rule_told) (defScope s_rule_told) .none kV12 dc12 pm12 an12 cd12 ct12), sl12⟩)
    (c12 : PySem.W.codeIn K cd12 "rule_told" = true)
    (k12 : PySem.W.keepIn K (.ref f12) = true)
    (a13 : PySem.W.nsIn K mainGlobals "_law_heard" = some (some (.ref f13)))
    (l13 : K.lookup f13 = some ⟨oc13, od13, .func (PySem.W.fnOf "_law_heard" "_law_heard" (defArgs s__law_heard) (defBody s__law_heard) (defScope s__law_heard) .none kV13 dc13 pm13 an13 cd13 ct13), sl13⟩)
    (c13 : PySem.W.codeIn K cd13 "_law_heard" = true)
    (k13 : PySem.W.keepIn K (.ref f13) = true)
    (a14 : PySem.W.nsIn K mainGlobals "_law_pen" = some (some (.ref f14)))
    (l14 : K.lookup f14 = some ⟨oc14, od14, .func (PySem.W.fnOf "_law_pen" "_law_pen" (defArgs s__law_pen) (defBody s__law_pen) (defScope s__law_pen) .none kV14 dc14 pm14 an14 cd14 ct14), sl14⟩)
    (c14 : PySem.W.codeIn K cd14 "_law_pen" = true)
    (k14 : PySem.W.keepIn K (.ref f14) = true)
    (a15 : PySem.W.nsIn K mainGlobals "_law_draw" = some (some (.ref f15)))
    (l15 : K.lookup f15 = some ⟨oc15, od15, .func (PySem.W.fnOf "_law_draw" "_law_draw" (defArgs s__law_draw) (defBody s__law_draw) (defScope s__law_draw) .none kV15 dc15 pm15 an15 cd15 ct15), sl15⟩)
    (c15 : PySem.W.codeIn K cd15 "_law_draw" = true)
    (k15 : PySem.W.keepIn K (.ref f15) = true)
    (a16 : PySem.W.nsIn K mainGlobals "_law_pick" = some (some (.ref f16)))
    (l16 : K.lookup f16 = some ⟨oc16, od16, .func (PySem.W.fnOf "_law_pick" "_law_pick" (defArgs s__law_pick) (defBody s__law_pick) (defScope s__law_pick) .none kV16 dc16 pm16 an16 cd16 ct16), sl16⟩)
    (c16 : PySem.W.codeIn K cd16 "_law_pick" = true)
    (k16 : PySem.W.keepIn K (.ref f16) = true)
    (a17 : PySem.W.nsIn K mainGlobals "_law_leaf" = some (some (.ref f17)))
    (l17 : K.lookup f17 = some ⟨oc17, od17, .func (PySem.W.fnOf "_law_leaf" "_law_leaf" (defArgs s__law_leaf) (defBody s__law_leaf) (defScope s__law_leaf) .none kV17 dc17 pm17 an17 cd17 ct17), sl17⟩)
    (c17 : PySem.W.codeIn K cd17 "_law_leaf" = true)
    (k17 : PySem.W.keepIn K (.ref f17) = true)
    (a18 : PySem.W.nsIn K mainGlobals "_law_plain" = some (some (.ref f18)))
    (l18 : K.lookup f18 = some ⟨oc18, od18, .func (PySem.W.fnOf "_law_plain" "_law_plain" (defArgs s__law_plain) (defBody s__law_plain) (defScope s__law_plain) .none kV18 dc18 pm18 an18 cd18 ct18), sl18⟩)
    (c18 : PySem.W.codeIn K cd18 "_law_plain" = true)
    (k18 : PySem.W.keepIn K (.ref f18) = true)
    (a19 : PySem.W.nsIn K mainGlobals "_law_text" = some (some (.ref f19)))
    (l19 : K.lookup f19 = some ⟨oc19, od19, .func (PySem.W.fnOf "_law_text" "_law_text" (defArgs s__law_text) (defBody s__law_text) (defScope s__law_text) .none kV19 dc19 pm19 an19 cd19 ct19), sl19⟩)
    (c19 : PySem.W.codeIn K cd19 "_law_text" = true)
    (k19 : PySem.W.keepIn K (.ref f19) = true)
    (a20 : PySem.W.nsIn K mainGlobals "_law_is_number" = some (some (.ref f20)))
    (l20 : K.lookup f20 = some ⟨oc20, od20, .func (PySem.W.fnOf "_law_is_number" "_law_is_number" (defArgs s__law_is_number) (defBody s__law_is_number) (defScope s__law_is_number) .none kV20 dc20 pm20 an20 cd20 ct20), sl20⟩)
    (c20 : PySem.W.codeIn K cd20 "_law_is_number" = true)
    (k20 : PySem.W.keepIn K (.ref f20) = true)
    (a21 : PySem.W.nsIn K mainGlobals "_law_rule_end" = some (some (.ref f21)))
    (l21 : K.lookup f21 = some ⟨oc21, od21, .func (PySem.W.fnOf "_law_rule_end" "_law_rule_end" (defArgs s__law_rule_end) (defBody s__law_rule_end) (defScope s__law_rule_end) .none kV21 dc21 pm21 an21 cd21 ct21), sl21⟩)
    (c21 : PySem.W.codeIn K cd21 "_law_rule_end" = true)
    (k21 : PySem.W.keepIn K (.ref f21) = true)
    (a22 : PySem.W.nsIn K mainGlobals "_law_due" = some (some (.ref f22)))
    (l22 : K.lookup f22 = some ⟨oc22, od22, .func (PySem.W.fnOf "_law_due" "_law_due" (defArgs s__law_due) (defBody s__law_due) (defScope s__law_due) .none kV22 dc22 pm22 an22 cd22 ct22), sl22⟩)
    (c22 : PySem.W.codeIn K cd22 "_law_due" = true)
    (k22 : PySem.W.keepIn K (.ref f22) = true)
    (a23 : PySem.W.nsIn K mainGlobals "_law_read_right" = some (some (.ref f23)))
    (l23 : K.lookup f23 = some ⟨oc23, od23, .func (PySem.W.fnOf "_law_read_right" "_law_read_right" (defArgs s__law_read_right) (defBody s__law_read_right) (defScope s__law_read_right) .none kV23 dc23 pm23 an23 (.ref ct0) ct23), sl23⟩)
    (c23 : PySem.W.codeIn K (.ref ct0) "_law_read_right" = true)
    (k23 : PySem.W.keepIn K (.ref f23) = true)
    (a24 : PySem.W.nsIn K mainGlobals "_law_bent" = some (some (.ref f24)))
    (l24 : K.lookup f24 = some ⟨oc24, od24, .func (PySem.W.fnOf "_law_bent" "_law_bent" (defArgs s__law_bent) (defBody s__law_bent) (defScope s__law_bent) .none kV24 dc24 pm24 an24 cd24 ct24), sl24⟩)
    (c24 : PySem.W.codeIn K cd24 "_law_bent" = true)
    (k24 : PySem.W.keepIn K (.ref f24) = true)
    (a25 : PySem.W.nsIn K mainGlobals "law" = some (some (.ref f25)))
    (l25 : K.lookup f25 = some ⟨oc25, od25, .func (PySem.W.fnOf "law" "law" (defArgs s_law) (defBody s_law) (defScope s_law) .none kV25 dc25 pm25 an25 (.ref ctt1) ct25), sl25⟩)
    (c25 : PySem.W.codeIn K (.ref ctt1) "law" = true)
    (k25 : PySem.W.keepIn K (.ref f25) = true)
    (a_AF : PySem.W.nsIn K mainGlobals "Fixed" = some (some (.ref AF)))
    (a_AF___init__ : PySem.W.findIn K (.ref AF) "__init__" = some (some (.ref g_AF___init__)))
    (l_AF___init__ : K.lookup g_AF___init__ = some ⟨oc_AF___init__, od_AF___init__, .func (PySem.W.fnOf "__init__" "Fixed.__init__" (defArgs s_Fixed___init__) (defBody s_Fixed___init__) (defScope s_Fixed___init__) .none kV_AF___init__ dc_AF___init__ pm_AF___init__ an_AF___init__ cd_AF___init__ ct_AF___init__), sl_AF___init__⟩)
    (c_AF___init__ : PySem.W.codeIn K cd_AF___init__ "Fixed.__init__" = true)
    (k_AF___init__ : PySem.W.keepIn K (.ref g_AF___init__) = true)
    (i_AF___init__ : PySem.W.isFn K (.ref g_AF___init__) = true)
    (a_AF___str__ : PySem.W.findIn K (.ref AF) "__str__" = some (some (.ref g_AF___str__)))
    (l_AF___str__ : K.lookup g_AF___str__ = some ⟨oc_AF___str__, od_AF___str__, .func (PySem.W.fnOf "__str__" "Fixed.__str__" (defArgs s_Fixed___str__) (defBody s_Fixed___str__) (defScope s_Fixed___str__) .none kV_AF___str__ dc_AF___str__ pm_AF___str__ an_AF___str__ cd_AF___str__ ct_AF___str__), sl_AF___str__⟩)
    (c_AF___str__ : PySem.W.codeIn K cd_AF___str__ "Fixed.__str__" = true)
    (k_AF___str__ : PySem.W.keepIn K (.ref g_AF___str__) = true)
    (i_AF___str__ : PySem.W.isFn K (.ref g_AF___str__) = true)
    (mk_AF : PySem.W.makesIn K AF = true)
    (pg_AF : PySem.W.plainGet K AF Str.empty = true)
    (hd_AF : PySem.W.hasDictIn K AF = true)
    (po_AF : PySem.W.plainOver K AF = true)
    (sa_AF : PySem.W.findIn K (.ref AF) "__setattr__" = some (some (.builtin "object.__setattr__")))
    (kc_AF : PySem.W.keepIn K (.ref AF) = true)
    (ya_AF : PySem.W.findIn K (.ref AF) "__class__" = some (some (.builtin "object.__class__")))
    (yb : PySem.W.specialIn K (.builtin "object.__class__") "__get__" = some (some (.builtin "getset_descriptor.__get__")))
    (yc : PySem.W.takesIn K (.builtin "object.__class__") = some true)
    (yd_AF : PySem.W.mroIn K AF (.type "object") = some true)
    (yk_AF : PySem.W.kitOne K (.ref AF) (.ref AF) = some true)
    (n_AF_size : PySem.W.findIn K (.ref AF) "size" = some none)
    (n_AF_modulus : PySem.W.findIn K (.ref AF) "modulus" = some none)
    (n_AF_parts : PySem.W.findIn K (.ref AF) "parts" = some none)
    (a_AD : PySem.W.nsIn K mainGlobals "Divided" = some (some (.ref AD)))
    (a_AD___init__ : PySem.W.findIn K (.ref AD) "__init__" = some (some (.ref g_AD___init__)))
    (l_AD___init__ : K.lookup g_AD___init__ = some ⟨oc_AD___init__, od_AD___init__, .func (PySem.W.fnOf "__init__" "Divided.__init__" (defArgs s_Divided___init__) (defBody s_Divided___init__) (defScope s_Divided___init__) .none kV_AD___init__ dc_AD___init__ pm_AD___init__ an_AD___init__ cd_AD___init__ ct_AD___init__), sl_AD___init__⟩)
    (c_AD___init__ : PySem.W.codeIn K cd_AD___init__ "Divided.__init__" = true)
    (k_AD___init__ : PySem.W.keepIn K (.ref g_AD___init__) = true)
    (i_AD___init__ : PySem.W.isFn K (.ref g_AD___init__) = true)
    (a_AD___str__ : PySem.W.findIn K (.ref AD) "__str__" = some (some (.ref g_AD___str__)))
    (l_AD___str__ : K.lookup g_AD___str__ = some ⟨oc_AD___str__, od_AD___str__, .func (PySem.W.fnOf "__str__" "Divided.__str__" (defArgs s_Divided___str__) (defBody s_Divided___str__) (defScope s_Divided___str__) .none kV_AD___str__ dc_AD___str__ pm_AD___str__ an_AD___str__ cd_AD___str__ ct_AD___str__), sl_AD___str__⟩)
    (c_AD___str__ : PySem.W.codeIn K cd_AD___str__ "Divided.__str__" = true)
    (k_AD___str__ : PySem.W.keepIn K (.ref g_AD___str__) = true)
    (i_AD___str__ : PySem.W.isFn K (.ref g_AD___str__) = true)
    (mk_AD : PySem.W.makesIn K AD = true)
    (pg_AD : PySem.W.plainGet K AD Str.empty = true)
    (hd_AD : PySem.W.hasDictIn K AD = true)
    (po_AD : PySem.W.plainOver K AD = true)
    (sa_AD : PySem.W.findIn K (.ref AD) "__setattr__" = some (some (.builtin "object.__setattr__")))
    (kc_AD : PySem.W.keepIn K (.ref AD) = true)
    (ya_AD : PySem.W.findIn K (.ref AD) "__class__" = some (some (.builtin "object.__class__")))
    (yd_AD : PySem.W.mroIn K AD (.type "object") = some true)
    (yk_AD : PySem.W.kitOne K (.ref AD) (.ref AD) = some true)
    (n_AD_x : PySem.W.findIn K (.ref AD) "x" = some none)
    (n_AD_y : PySem.W.findIn K (.ref AD) "y" = some none)
    (n_AD_w : PySem.W.findIn K (.ref AD) "w" = some none)
    (n_AD_modulus : PySem.W.findIn K (.ref AD) "modulus" = some none)
    (n_AD_parts : PySem.W.findIn K (.ref AD) "parts" = some none)
    (a_AL : PySem.W.nsIn K mainGlobals "Lesser" = some (some (.ref AL)))
    (a_AL___init__ : PySem.W.findIn K (.ref AL) "__init__" = some (some (.ref g_AL___init__)))
    (l_AL___init__ : K.lookup g_AL___init__ = some ⟨oc_AL___init__, od_AL___init__, .func (PySem.W.fnOf "__init__" "Lesser.__init__" (defArgs s_Lesser___init__) (defBody s_Lesser___init__) (defScope s_Lesser___init__) .none kV_AL___init__ dc_AL___init__ pm_AL___init__ an_AL___init__ cd_AL___init__ ct_AL___init__), sl_AL___init__⟩)
    (c_AL___init__ : PySem.W.codeIn K cd_AL___init__ "Lesser.__init__" = true)
    (k_AL___init__ : PySem.W.keepIn K (.ref g_AL___init__) = true)
    (i_AL___init__ : PySem.W.isFn K (.ref g_AL___init__) = true)
    (a_AL___str__ : PySem.W.findIn K (.ref AL) "__str__" = some (some (.ref g_AL___str__)))
    (l_AL___str__ : K.lookup g_AL___str__ = some ⟨oc_AL___str__, od_AL___str__, .func (PySem.W.fnOf "__str__" "Lesser.__str__" (defArgs s_Lesser___str__) (defBody s_Lesser___str__) (defScope s_Lesser___str__) .none kV_AL___str__ dc_AL___str__ pm_AL___str__ an_AL___str__ cd_AL___str__ ct_AL___str__), sl_AL___str__⟩)
    (c_AL___str__ : PySem.W.codeIn K cd_AL___str__ "Lesser.__str__" = true)
    (k_AL___str__ : PySem.W.keepIn K (.ref g_AL___str__) = true)
    (i_AL___str__ : PySem.W.isFn K (.ref g_AL___str__) = true)
    (mk_AL : PySem.W.makesIn K AL = true)
    (pg_AL : PySem.W.plainGet K AL Str.empty = true)
    (hd_AL : PySem.W.hasDictIn K AL = true)
    (po_AL : PySem.W.plainOver K AL = true)
    (sa_AL : PySem.W.findIn K (.ref AL) "__setattr__" = some (some (.builtin "object.__setattr__")))
    (kc_AL : PySem.W.keepIn K (.ref AL) = true)
    (ya_AL : PySem.W.findIn K (.ref AL) "__class__" = some (some (.builtin "object.__class__")))
    (yd_AL : PySem.W.mroIn K AL (.type "object") = some true)
    (yk_AL : PySem.W.kitOne K (.ref AL) (.ref AL) = some true)
    (n_AL_one : PySem.W.findIn K (.ref AL) "one" = some none)
    (n_AL_other : PySem.W.findIn K (.ref AL) "other" = some none)
    (n_AL_modulus : PySem.W.findIn K (.ref AL) "modulus" = some none)
    (n_AL_parts : PySem.W.findIn K (.ref AL) "parts" = some none)
    (a_AG : PySem.W.nsIn K mainGlobals "Greater" = some (some (.ref AG)))
    (a_AG___init__ : PySem.W.findIn K (.ref AG) "__init__" = some (some (.ref g_AG___init__)))
    (l_AG___init__ : K.lookup g_AG___init__ = some ⟨oc_AG___init__, od_AG___init__, .func (PySem.W.fnOf "__init__" "Greater.__init__" (defArgs s_Greater___init__) (defBody s_Greater___init__) (defScope s_Greater___init__) .none kV_AG___init__ dc_AG___init__ pm_AG___init__ an_AG___init__ cd_AG___init__ ct_AG___init__), sl_AG___init__⟩)
    (c_AG___init__ : PySem.W.codeIn K cd_AG___init__ "Greater.__init__" = true)
    (k_AG___init__ : PySem.W.keepIn K (.ref g_AG___init__) = true)
    (i_AG___init__ : PySem.W.isFn K (.ref g_AG___init__) = true)
    (a_AG___str__ : PySem.W.findIn K (.ref AG) "__str__" = some (some (.ref g_AG___str__)))
    (l_AG___str__ : K.lookup g_AG___str__ = some ⟨oc_AG___str__, od_AG___str__, .func (PySem.W.fnOf "__str__" "Greater.__str__" (defArgs s_Greater___str__) (defBody s_Greater___str__) (defScope s_Greater___str__) .none kV_AG___str__ dc_AG___str__ pm_AG___str__ an_AG___str__ cd_AG___str__ ct_AG___str__), sl_AG___str__⟩)
    (c_AG___str__ : PySem.W.codeIn K cd_AG___str__ "Greater.__str__" = true)
    (k_AG___str__ : PySem.W.keepIn K (.ref g_AG___str__) = true)
    (i_AG___str__ : PySem.W.isFn K (.ref g_AG___str__) = true)
    (mk_AG : PySem.W.makesIn K AG = true)
    (pg_AG : PySem.W.plainGet K AG Str.empty = true)
    (hd_AG : PySem.W.hasDictIn K AG = true)
    (po_AG : PySem.W.plainOver K AG = true)
    (sa_AG : PySem.W.findIn K (.ref AG) "__setattr__" = some (some (.builtin "object.__setattr__")))
    (kc_AG : PySem.W.keepIn K (.ref AG) = true)
    (ya_AG : PySem.W.findIn K (.ref AG) "__class__" = some (some (.builtin "object.__class__")))
    (yd_AG : PySem.W.mroIn K AG (.type "object") = some true)
    (yk_AG : PySem.W.kitOne K (.ref AG) (.ref AG) = some true)
    (n_AG_one : PySem.W.findIn K (.ref AG) "one" = some none)
    (n_AG_other : PySem.W.findIn K (.ref AG) "other" = some none)
    (n_AG_modulus : PySem.W.findIn K (.ref AG) "modulus" = some none)
    (n_AG_parts : PySem.W.findIn K (.ref AG) "parts" = some none)
    (a_CR0 : PySem.W.nsIn K mainGlobals "Rule" = some (some (.ref CR0)))
    (sr_CR0 : PySem.W.readsIn K CR0 (.type "type") = true)
    (sg_CR0 : PySem.W.specialIn K (.ref CR0) "__getattribute__" = some (some (.builtin "type.__getattribute__")))
    (sf_CR0_read : PySem.W.findCls K (.ref CR0) (.type "type") "read" = some (.get (.builtin "staticmethod.__get__") (.ref p_CR0_read) .none (.ref CR0)))
    (sc_CR0_read : PySem.W.recIn K p_CR0_read "staticmethod" = some (.ref g_CR0_read :: rest_CR0_read))
    (l_CR0_read : K.lookup g_CR0_read = some ⟨oc_CR0_read, od_CR0_read, .func (PySem.W.fnOf "read" "Rule.read" (defArgs s_Rule_read) (defBody s_Rule_read) (defScope s_Rule_read) .none kV_CR0_read dc_CR0_read pm_CR0_read an_CR0_read cd_CR0_read ct_CR0_read), sl_CR0_read⟩)
    (c_CR0_read : PySem.W.codeIn K cd_CR0_read "Rule.read" = true)
    (k_CR0_read : PySem.W.keepIn K (.ref g_CR0_read) = true)
    (a_CL : PySem.W.nsIn K mainGlobals "LateError" = some (some (.ref CL)))
    (a_lcm : PySem.W.nsIn K mainGlobals "lcm" = some (some (.builtin "math.lcm")))
    (aZS : PySem.W.nsIn K mainGlobals "BadSize" = some (some (.ref CS)))
    (iZS : PySem.W.findIn K (.ref CS) "__init__" = some (some (.ref fZS)))
    (tZS : PySem.W.typeIn K (.ref fZS) = some (.type "function"))
    (lZS : K.lookup fZS = some ⟨ocZS, odZS, .func (PySem.W.fnX "__init__" "BadSize.__init__" (defArgs s_BadSize___init__) (defBody s_BadSize___init__) (defScope s_BadSize___init__) [("__class__", ccZS)] .none kVZS dcZS pmZS anZS (.ref cdZS) ctZS), slZS⟩)
    (cZS : PySem.W.codeIn K (.ref cdZS) "BadSize.__init__" = true)
    (eZS : ∃ nm q N bs bm sn sub ab col dd k0 k1 k2 k3 k5, K.lookup CS = some (excClassObj nm q CS N bs bm true sn sub ab col dd k0 k1 k2 k3 k5 "ValueError.__new__") ∧ PySem.HandSPX.refsVE bm = true)
    (sZS : PySem.W.findIn K (.ref CS) "__setattr__" = some (some (.builtin "object.__setattr__")))
    (xZS : PySem.W.subIn K (.ref CS) (.type "BaseException") = some true)
    (yZS : PySem.W.typeIn K (.ref CS) = some (.type "type"))
    (kZS : PySem.W.keepIn K (.ref CS) = true)
    (qZS : K.lookup ccZS = some ⟨clZS, cldZS, .cell (some (.ref CS)), cslZS⟩)
    (uZS : K.lookup cdZS = some ⟨cclZS, cddZS, .fields vsZS, ccsZS⟩)
    (vZS : vsZS[2]? = some (.str fileZS tfZS))
    (wZS : ((l.prog.main.file : Str) == fileZS) = true)
    (mZS : PySem.W.mroIn K CS (.ref CS) = some true)
    (pZS : PySem.W.ks_superIn K CS CS "__init__" = some (some (.builtin "ValueError.__init__")))
    (bZS : PySem.W.subIn K (.ref CS) (.type "ValueError") = some true)
    (zS : PySem.W.nsIn K mainGlobals "super" = some none)
    (tS : (l.prog.main.scope.names.lookup ("super" : Str)).isSome = false)
    (oB : PySem.W.nsIn K cStatics "thirdparty.any" = some none)
    (nZS_value : PySem.W.findIn K (.ref CS) "value" = some none)
    (gZS : PySem.W.findIn K (.ref CS) "__getattribute__" = some (some (.builtin "BaseException.__getattribute__")))
    (hZS : PySem.W.findIn K (.ref CS) "__getattr__" = some none)
    (dZS : PySem.W.hasDictIn K CS = true)
    (jZS : PySem.W.findIn K (.ref CS) "__class__" = some (some (.builtin "object.__class__")))
    (rZS : PySem.W.mroIn K CS (.type "object") = some true)
    (k1ZS : PySem.W.kitOne K (.ref CS) (.ref CS) = some true)
    (emZS : PySem.W.exmOne K (.ref CS) (.ref CL) = some true)
    (aZR : PySem.W.nsIn K mainGlobals "BadRule" = some (some (.ref CR)))
    (iZR : PySem.W.findIn K (.ref CR) "__init__" = some (some (.ref fZR)))
    (tZR : PySem.W.typeIn K (.ref fZR) = some (.type "function"))
    (lZR : K.lookup fZR = some ⟨ocZR, odZR, .func (PySem.W.fnX "__init__" "BadRule.__init__" (defArgs s_BadRule___init__) (defBody s_BadRule___init__) (defScope s_BadRule___init__) [("__class__", ccZR)] .none kVZR dcZR pmZR anZR (.ref cdZR) ctZR), slZR⟩)
    (cZR : PySem.W.codeIn K (.ref cdZR) "BadRule.__init__" = true)
    (eZR : ∃ nm q N bs bm sn sub ab col dd k0 k1 k2 k3 k5, K.lookup CR = some (excClassObj nm q CR N bs bm true sn sub ab col dd k0 k1 k2 k3 k5 "ValueError.__new__") ∧ PySem.HandSPX.refsVE bm = true)
    (sZR : PySem.W.findIn K (.ref CR) "__setattr__" = some (some (.builtin "object.__setattr__")))
    (xZR : PySem.W.subIn K (.ref CR) (.type "BaseException") = some true)
    (yZR : PySem.W.typeIn K (.ref CR) = some (.type "type"))
    (kZR : PySem.W.keepIn K (.ref CR) = true)
    (qZR : K.lookup ccZR = some ⟨clZR, cldZR, .cell (some (.ref CR)), cslZR⟩)
    (uZR : K.lookup cdZR = some ⟨cclZR, cddZR, .fields vsZR, ccsZR⟩)
    (vZR : vsZR[2]? = some (.str fileZR tfZR))
    (wZR : ((l.prog.main.file : Str) == fileZR) = true)
    (mZR : PySem.W.mroIn K CR (.ref CR) = some true)
    (pZR : PySem.W.ks_superIn K CR CR "__init__" = some (some (.builtin "ValueError.__init__")))
    (bZR : PySem.W.subIn K (.ref CR) (.type "ValueError") = some true)
    (nZR_part : PySem.W.findIn K (.ref CR) "part" = some none)
    (gZR : PySem.W.findIn K (.ref CR) "__getattribute__" = some (some (.builtin "BaseException.__getattribute__")))
    (hZR : PySem.W.findIn K (.ref CR) "__getattr__" = some none)
    (dZR : PySem.W.hasDictIn K CR = true)
    (jZR : PySem.W.findIn K (.ref CR) "__class__" = some (some (.builtin "object.__class__")))
    (rZR : PySem.W.mroIn K CR (.type "object") = some true)
    (k1ZR : PySem.W.kitOne K (.ref CR) (.ref CR) = some true)
    (emZR : PySem.W.exmOne K (.ref CR) (.ref CL) = some true)
    (aZM : PySem.W.nsIn K mainGlobals "TooMany" = some (some (.ref CM)))
    (iZM : PySem.W.findIn K (.ref CM) "__init__" = some (some (.ref fZM)))
    (tZM : PySem.W.typeIn K (.ref fZM) = some (.type "function"))
    (lZM : K.lookup fZM = some ⟨ocZM, odZM, .func (PySem.W.fnX "__init__" "TooMany.__init__" (defArgs s_TooMany___init__) (defBody s_TooMany___init__) (defScope s_TooMany___init__) [("__class__", ccZM)] .none kVZM dcZM pmZM anZM (.ref cdZM) ctZM), slZM⟩)
    (cZM : PySem.W.codeIn K (.ref cdZM) "TooMany.__init__" = true)
    (eZM : ∃ nm q N bs bm sn sub ab col dd k0 k1 k2 k3 k5, K.lookup CM = some (excClassObj nm q CM N bs bm true sn sub ab col dd k0 k1 k2 k3 k5 "ValueError.__new__") ∧ PySem.HandSPX.refsVE bm = true)
    (sZM : PySem.W.findIn K (.ref CM) "__setattr__" = some (some (.builtin "object.__setattr__")))
    (xZM : PySem.W.subIn K (.ref CM) (.type "BaseException") = some true)
    (yZM : PySem.W.typeIn K (.ref CM) = some (.type "type"))
    (kZM : PySem.W.keepIn K (.ref CM) = true)
    (qZM : K.lookup ccZM = some ⟨clZM, cldZM, .cell (some (.ref CM)), cslZM⟩)
    (uZM : K.lookup cdZM = some ⟨cclZM, cddZM, .fields vsZM, ccsZM⟩)
    (vZM : vsZM[2]? = some (.str fileZM tfZM))
    (wZM : ((l.prog.main.file : Str) == fileZM) = true)
    (mZM : PySem.W.mroIn K CM (.ref CM) = some true)
    (pZM : PySem.W.ks_superIn K CM CM "__init__" = some (some (.builtin "ValueError.__init__")))
    (bZM : PySem.W.subIn K (.ref CM) (.type "ValueError") = some true)
    (nZM_what : PySem.W.findIn K (.ref CM) "what" = some none)
    (nZM_most : PySem.W.findIn K (.ref CM) "most" = some none)
    (gZM : PySem.W.findIn K (.ref CM) "__getattribute__" = some (some (.builtin "BaseException.__getattribute__")))
    (hZM : PySem.W.findIn K (.ref CM) "__getattr__" = some none)
    (dZM : PySem.W.hasDictIn K CM = true)
    (jZM : PySem.W.findIn K (.ref CM) "__class__" = some (some (.builtin "object.__class__")))
    (rZM : PySem.W.mroIn K CM (.type "object") = some true)
    (k1ZM : PySem.W.kitOne K (.ref CM) (.ref CM) = some true)
    (emZM : PySem.W.exmOne K (.ref CM) (.ref CL) = some true)
    (aZE : PySem.W.nsIn K mainGlobals "BadRest" = some (some (.ref CE)))
    (iZE : PySem.W.findIn K (.ref CE) "__init__" = some (some (.ref fZE)))
    (tZE : PySem.W.typeIn K (.ref fZE) = some (.type "function"))
    (lZE : K.lookup fZE = some ⟨ocZE, odZE, .func (PySem.W.fnX "__init__" "BadRest.__init__" (defArgs s_BadRest___init__) (defBody s_BadRest___init__) (defScope s_BadRest___init__) [("__class__", ccZE)] .none kVZE dcZE pmZE anZE (.ref cdZE) ctZE), slZE⟩)
    (cZE : PySem.W.codeIn K (.ref cdZE) "BadRest.__init__" = true)
    (eZE : ∃ nm q N bs bm sn sub ab col dd k0 k1 k2 k3 k5, K.lookup CE = some (excClassObj nm q CE N bs bm true sn sub ab col dd k0 k1 k2 k3 k5 "ValueError.__new__") ∧ PySem.HandSPX.refsVE bm = true)
    (sZE : PySem.W.findIn K (.ref CE) "__setattr__" = some (some (.builtin "object.__setattr__")))
    (xZE : PySem.W.subIn K (.ref CE) (.type "BaseException") = some true)
    (yZE : PySem.W.typeIn K (.ref CE) = some (.type "type"))
    (kZE : PySem.W.keepIn K (.ref CE) = true)
    (qZE : K.lookup ccZE = some ⟨clZE, cldZE, .cell (some (.ref CE)), cslZE⟩)
    (uZE : K.lookup cdZE = some ⟨cclZE, cddZE, .fields vsZE, ccsZE⟩)
    (vZE : vsZE[2]? = some (.str fileZE tfZE))
    (wZE : ((l.prog.main.file : Str) == fileZE) = true)
    (mZE : PySem.W.mroIn K CE (.ref CE) = some true)
    (pZE : PySem.W.ks_superIn K CE CE "__init__" = some (some (.builtin "ValueError.__init__")))
    (bZE : PySem.W.subIn K (.ref CE) (.type "ValueError") = some true)
    (nZE_value : PySem.W.findIn K (.ref CE) "value" = some none)
    (gZE : PySem.W.findIn K (.ref CE) "__getattribute__" = some (some (.builtin "BaseException.__getattribute__")))
    (hZE : PySem.W.findIn K (.ref CE) "__getattr__" = some none)
    (dZE : PySem.W.hasDictIn K CE = true)
    (jZE : PySem.W.findIn K (.ref CE) "__class__" = some (some (.builtin "object.__class__")))
    (rZE : PySem.W.mroIn K CE (.type "object") = some true)
    (k1ZE : PySem.W.kitOne K (.ref CE) (.ref CE) = some true)
    (emZE : PySem.W.exmOne K (.ref CE) (.ref CL) = some true)
    (aZT : PySem.W.nsIn K mainGlobals "BadTotal" = some (some (.ref CT)))
    (iZT : PySem.W.findIn K (.ref CT) "__init__" = some (some (.ref fZT)))
    (tZT : PySem.W.typeIn K (.ref fZT) = some (.type "function"))
    (lZT : K.lookup fZT = some ⟨ocZT, odZT, .func (PySem.W.fnX "__init__" "BadTotal.__init__" (defArgs s_BadTotal___init__) (defBody s_BadTotal___init__) (defScope s_BadTotal___init__) [("__class__", ccZT)] .none kVZT dcZT pmZT anZT (.ref cdZT) ctZT), slZT⟩)
    (cZT : PySem.W.codeIn K (.ref cdZT) "BadTotal.__init__" = true)
    (eZT : ∃ nm q N bs bm sn sub ab col dd k0 k1 k2 k3 k5, K.lookup CT = some (excClassObj nm q CT N bs bm true sn sub ab col dd k0 k1 k2 k3 k5 "ValueError.__new__") ∧ PySem.HandSPX.refsVE bm = true)
    (sZT : PySem.W.findIn K (.ref CT) "__setattr__" = some (some (.builtin "object.__setattr__")))
    (xZT : PySem.W.subIn K (.ref CT) (.type "BaseException") = some true)
    (yZT : PySem.W.typeIn K (.ref CT) = some (.type "type"))
    (kZT : PySem.W.keepIn K (.ref CT) = true)
    (qZT : K.lookup ccZT = some ⟨clZT, cldZT, .cell (some (.ref CT)), cslZT⟩)
    (uZT : K.lookup cdZT = some ⟨cclZT, cddZT, .fields vsZT, ccsZT⟩)
    (vZT : vsZT[2]? = some (.str fileZT tfZT))
    (wZT : ((l.prog.main.file : Str) == fileZT) = true)
    (mZT : PySem.W.mroIn K CT (.ref CT) = some true)
    (pZT : PySem.W.ks_superIn K CT CT "__init__" = some (some (.builtin "ValueError.__init__")))
    (bZT : PySem.W.subIn K (.ref CT) (.type "ValueError") = some true)
    (nZT_value : PySem.W.findIn K (.ref CT) "value" = some none)
    (gZT : PySem.W.findIn K (.ref CT) "__getattribute__" = some (some (.builtin "BaseException.__getattribute__")))
    (hZT : PySem.W.findIn K (.ref CT) "__getattr__" = some none)
    (dZT : PySem.W.hasDictIn K CT = true)
    (jZT : PySem.W.findIn K (.ref CT) "__class__" = some (some (.builtin "object.__class__")))
    (rZT : PySem.W.mroIn K CT (.type "object") = some true)
    (k1ZT : PySem.W.kitOne K (.ref CT) (.ref CT) = some true)
    (emZT : PySem.W.exmOne K (.ref CT) (.ref CL) = some true)
    (aZW : PySem.W.nsIn K mainGlobals "BadText" = some (some (.ref CW)))
    (iZW : PySem.W.findIn K (.ref CW) "__init__" = some (some (.ref fZW)))
    (tZW : PySem.W.typeIn K (.ref fZW) = some (.type "function"))
    (lZW : K.lookup fZW = some ⟨ocZW, odZW, .func (PySem.W.fnX "__init__" "BadText.__init__" (defArgs s_BadText___init__) (defBody s_BadText___init__) (defScope s_BadText___init__) [("__class__", ccZW)] .none kVZW dcZW pmZW anZW (.ref cdZW) ctZW), slZW⟩)
    (cZW : PySem.W.codeIn K (.ref cdZW) "BadText.__init__" = true)
    (eZW : ∃ nm q N bs bm sn sub ab col dd k0 k1 k2 k3 k5, K.lookup CW = some (excClassObj nm q CW N bs bm true sn sub ab col dd k0 k1 k2 k3 k5 "ValueError.__new__") ∧ PySem.HandSPX.refsVE bm = true)
    (sZW : PySem.W.findIn K (.ref CW) "__setattr__" = some (some (.builtin "object.__setattr__")))
    (xZW : PySem.W.subIn K (.ref CW) (.type "BaseException") = some true)
    (yZW : PySem.W.typeIn K (.ref CW) = some (.type "type"))
    (kZW : PySem.W.keepIn K (.ref CW) = true)
    (qZW : K.lookup ccZW = some ⟨clZW, cldZW, .cell (some (.ref CW)), cslZW⟩)
    (uZW : K.lookup cdZW = some ⟨cclZW, cddZW, .fields vsZW, ccsZW⟩)
    (vZW : vsZW[2]? = some (.str fileZW tfZW))
    (wZW : ((l.prog.main.file : Str) == fileZW) = true)
    (mZW : PySem.W.mroIn K CW (.ref CW) = some true)
    (pZW : PySem.W.ks_superIn K CW CW "__init__" = some (some (.builtin "ValueError.__init__")))
    (bZW : PySem.W.subIn K (.ref CW) (.type "ValueError") = some true)
    (nZW_line : PySem.W.findIn K (.ref CW) "line" = some none)
    (nZW_word : PySem.W.findIn K (.ref CW) "word" = some none)
    (gZW : PySem.W.findIn K (.ref CW) "__getattribute__" = some (some (.builtin "BaseException.__getattribute__")))
    (hZW : PySem.W.findIn K (.ref CW) "__getattr__" = some none)
    (dZW : PySem.W.hasDictIn K CW = true)
    (jZW : PySem.W.findIn K (.ref CW) "__class__" = some (some (.builtin "object.__class__")))
    (rZW : PySem.W.mroIn K CW (.type "object") = some true)
    (k1ZW : PySem.W.kitOne K (.ref CW) (.ref CW) = some true)
    (emZW : PySem.W.exmOne K (.ref CW) (.ref CL) = some true)
    (kJ_AF : PySem.W.kitAny K (.ref AF) [.ref AF, .ref AD, .ref AL, .ref AG] = some true)
    (kJ_AD : PySem.W.kitAny K (.ref AD) [.ref AF, .ref AD, .ref AL, .ref AG] = some true)
    (kJ_AL : PySem.W.kitAny K (.ref AL) [.ref AF, .ref AD, .ref AL, .ref AG] = some true)
    (kJ_AG : PySem.W.kitAny K (.ref AG) [.ref AF, .ref AD, .ref AL, .ref AG] = some true)
    (kTJ : (numTys.all fun T => decide (PySem.W.kitAny K (.type T) [.ref AF, .ref AD, .ref AL, .ref AG] = some false)) = true)
    (kE_AFAF : PySem.W.kitOne K (.ref AF) (.ref AF) = some true)
    (kE_AFAD : PySem.W.kitOne K (.ref AF) (.ref AD) = some false)
    (kE_AFAL : PySem.W.kitOne K (.ref AF) (.ref AL) = some false)
    (kE_AFAG : PySem.W.kitOne K (.ref AF) (.ref AG) = some false)
    (kE_ADAF : PySem.W.kitOne K (.ref AD) (.ref AF) = some false)
    (kE_ADAD : PySem.W.kitOne K (.ref AD) (.ref AD) = some true)
    (kE_ADAL : PySem.W.kitOne K (.ref AD) (.ref AL) = some false)
    (kE_ADAG : PySem.W.kitOne K (.ref AD) (.ref AG) = some false)
    (kE_ALAF : PySem.W.kitOne K (.ref AL) (.ref AF) = some false)
    (kE_ALAD : PySem.W.kitOne K (.ref AL) (.ref AD) = some false)
    (kE_ALAL : PySem.W.kitOne K (.ref AL) (.ref AL) = some true)
    (kE_ALAG : PySem.W.kitOne K (.ref AL) (.ref AG) = some false)
    (kE_AGAF : PySem.W.kitOne K (.ref AG) (.ref AF) = some false)
    (kE_AGAD : PySem.W.kitOne K (.ref AG) (.ref AD) = some false)
    (kE_AGAL : PySem.W.kitOne K (.ref AG) (.ref AL) = some false)
    (kE_AGAG : PySem.W.kitOne K (.ref AG) (.ref AG) = some true)
    (kTE_AF : (numTys.all fun T => decide (PySem.W.kitOne K (.type T) (.ref AF) = some false)) = true)
    (kR_AF : PySem.W.kitOne K (.ref AF) (.ref CR0) = some true)
    (kTE_AD : (numTys.all fun T => decide (PySem.W.kitOne K (.type T) (.ref AD) = some false)) = true)
    (kR_AD : PySem.W.kitOne K (.ref AD) (.ref CR0) = some true)
    (kTE_AL : (numTys.all fun T => decide (PySem.W.kitOne K (.type T) (.ref AL) = some false)) = true)
    (kR_AL : PySem.W.kitOne K (.ref AL) (.ref CR0) = some true)
    (kTE_AG : (numTys.all fun T => decide (PySem.W.kitOne K (.type T) (.ref AG) = some false)) = true)
    (kR_AG : PySem.W.kitOne K (.ref AG) (.ref CR0) = some true)
    (gMS : PySem.W.nsIn K mainGlobals "MOST_SIZE" = some (some (.int 1000000000000000000000000000000 tMS)))
    (gMD : PySem.W.nsIn K mainGlobals "MOST_DIVISOR" = some (some (.int 24 tMD)))
    (gMA : PySem.W.nsIn K mainGlobals "MOST_ADDED" = some (some (.int 1000 tMA)))
    (gMP : PySem.W.nsIn K mainGlobals "MOST_PARTS" = some (some (.int 6 tMP)))
    (gMR : PySem.W.nsIn K mainGlobals "MOST_RESIDUES" = some (some (.int 5000 tMR)))
    (k6CSCR : PySem.W.kitOne K (.ref CS) (.ref CR) = some false)
    (k6CECR : PySem.W.kitOne K (.ref CE) (.ref CR) = some false)
    (k6CECS : PySem.W.kitOne K (.ref CE) (.ref CS) = some false)
    (k6CTCR : PySem.W.kitOne K (.ref CT) (.ref CR) = some false)
    (k6CTCS : PySem.W.kitOne K (.ref CT) (.ref CS) = some false)
    (k6CTCE : PySem.W.kitOne K (.ref CT) (.ref CE) = some false)
    (k6CWCR : PySem.W.kitOne K (.ref CW) (.ref CR) = some false)
    (k6CWCS : PySem.W.kitOne K (.ref CW) (.ref CS) = some false)
    (k6CWCE : PySem.W.kitOne K (.ref CW) (.ref CE) = some false)
    (k6CWCT : PySem.W.kitOne K (.ref CW) (.ref CT) = some false)
    (k6CMCR : PySem.W.kitOne K (.ref CM) (.ref CR) = some false)
    (k6CMCS : PySem.W.kitOne K (.ref CM) (.ref CS) = some false)
    (k6CMCE : PySem.W.kitOne K (.ref CM) (.ref CE) = some false)
    (k6CMCT : PySem.W.kitOne K (.ref CM) (.ref CT) = some false)
    (k6CMCW : PySem.W.kitOne K (.ref CM) (.ref CW) = some false)
    (digs : PySem.W.nsIn K cStatics "sys.int_max_str_digits" = some none)
    (gMF : PySem.W.nsIn K mainGlobals "MOST_FIGURES" = some (some (.int 4000 tMF)))
    (fm_AF : PySem.W.findIn K (.ref AF) "__format__" = some (some (.builtin "object.__format__")))
    (fm_AD : PySem.W.findIn K (.ref AD) "__format__" = some (some (.builtin "object.__format__")))
    (fm_AL : PySem.W.findIn K (.ref AL) "__format__" = some (some (.builtin "object.__format__")))
    (fm_AG : PySem.W.findIn K (.ref AG) "__format__" = some (some (.builtin "object.__format__")))
    (kFS : PySem.W.kitOne K (.ref AF) (.type "str") = some false)
    (z_isinstance : PySem.W.nsIn K mainGlobals "isinstance" = some none)
    (z_int : PySem.W.nsIn K mainGlobals "int" = some none)
    (z_bool : PySem.W.nsIn K mainGlobals "bool" = some none)
    (z_len : PySem.W.nsIn K mainGlobals "len" = some none)
    (z_abs : PySem.W.nsIn K mainGlobals "abs" = some none)
    (z_list : PySem.W.nsIn K mainGlobals "list" = some none)
    (z_tuple : PySem.W.nsIn K mainGlobals "tuple" = some none)
    (z_range : PySem.W.nsIn K mainGlobals "range" = some none)
    (z_repr : PySem.W.nsIn K mainGlobals "repr" = some none)
    (z_str : PySem.W.nsIn K mainGlobals "str" = some none)
    (z_min : PySem.W.nsIn K mainGlobals "min" = some none)
    (z_max : PySem.W.nsIn K mainGlobals "max" = some none)
    (z_all : PySem.W.nsIn K mainGlobals "all" = some none)
    (z_enumerate : PySem.W.nsIn K mainGlobals "enumerate" = some none)
    (hCPt : PySem.W.codeHdIn K ct0 Pt = true)
    (nPPt : K.lookup Pt = none)
    (hCPt1 : PySem.W.codeHdIn K ctt1 Pt1 = true)
    (nPPt1 : K.lookup Pt1 = none)
    (tPPt : h.get? Pt = some { cls := .none, data := .fields #[] })
    (tPPt1 : h.get? Pt1 = some { cls := .none, data := .fields #[] })
    (hPd0 : [Pt, Pt1].Nodup)
    : LawG l w K CX0 77 63 "_law_script" mg fa h := by
  have e := hfa.symm.trans (PySem.W.mg_of X G a25)
  cases e
  have hPd : (([(Pt, lamQ1), (Pt1, lamQ2)] : List (Addr × Str)).map (·.1)).Nodup := hPd0
  have T : Txt K mg ⟨AF, AD, AL, AG⟩ CR0 0 CS CR CM CL := ⟨PySem.W.mg_none_of X G z_isinstance, PySem.W.mg_none_of X G z_int, PySem.W.mg_none_of X G z_bool, PySem.W.mg_none_of X G z_len, PySem.W.mg_none_of X G z_abs, PySem.W.mg_none_of X G z_list, PySem.W.mg_none_of X G z_tuple, PySem.W.mg_none_of X G z_range, PySem.W.mg_none_of X G z_repr, PySem.W.mg_none_of X G z_str, PySem.W.mg_none_of X G z_min, PySem.W.mg_none_of X G z_max, PySem.W.mg_none_of X G z_all, PySem.W.mg_none_of X G z_enumerate, PySem.W.mg_of X G a_CL, PySem.W.mg_of X G a_lcm, ⟨_, PySem.W.mg_of X G a_CR0, rfl⟩, ⟨⟨_, PySem.W.mg_of X G a_AF, rfl⟩, ⟨pg_AF, hd_AF, po_AF, sa_AF⟩, yk_AF, ya_AF, yb, yc, yd_AF, n_AF_modulus, n_AF_parts⟩, ⟨⟨_, PySem.W.mg_of X G a_AD, rfl⟩, ⟨pg_AD, hd_AD, po_AD, sa_AD⟩, yk_AD, ya_AD, yb, yc, yd_AD, n_AD_modulus, n_AD_parts⟩, ⟨⟨_, PySem.W.mg_of X G a_AL, rfl⟩, ⟨pg_AL, hd_AL, po_AL, sa_AL⟩, yk_AL, ya_AL, yb, yc, yd_AL, n_AL_modulus, n_AL_parts⟩, ⟨⟨_, PySem.W.mg_of X G a_AG, rfl⟩, ⟨pg_AG, hd_AG, po_AG, sa_AG⟩, yk_AG, ya_AG, yb, yc, yd_AG, n_AG_modulus, n_AG_parts⟩, ⟨⟨_, PySem.W.mg_of X G aZS, rfl⟩, ⟨gZS, hZS, xZS, dZS, jZS, yb, yc, rZS⟩, ⟨gZS, hZS, xZS, dZS⟩, (List.forall_mem_cons.mpr ⟨nZS_value, (fun _ h => nomatch h)⟩), k1ZS, emZS⟩, ⟨⟨_, PySem.W.mg_of X G aZR, rfl⟩, ⟨gZR, hZR, xZR, dZR, jZR, yb, yc, rZR⟩, ⟨gZR, hZR, xZR, dZR⟩, (List.forall_mem_cons.mpr ⟨nZR_part, (fun _ h => nomatch h)⟩), k1ZR, emZR⟩, ⟨⟨_, PySem.W.mg_of X G aZM, rfl⟩, ⟨gZM, hZM, xZM, dZM, jZM, yb, yc, rZM⟩, ⟨gZM, hZM, xZM, dZM⟩, (List.forall_mem_cons.mpr ⟨nZM_what, (List.forall_mem_cons.mpr ⟨nZM_most, (fun _ h => nomatch h)⟩)⟩), k1ZM, emZM⟩, (fun i hi => match i, hi with | 0, _ => kJ_AF | 1, _ => kJ_AD | 2, _ => kJ_AL | 3, _ => kJ_AG | i + 4, h => absurd h (by omega)), kTJ, (fun i j hi hj => match i, j, hi, hj with | 0, 0, _, _ => kE_AFAF | 0, 1, _, _ => kE_AFAD | 0, 2, _, _ => kE_AFAL | 0, 3, _, _ => kE_AFAG | 1, 0, _, _ => kE_ADAF | 1, 1, _, _ => kE_ADAD | 1, 2, _, _ => kE_ADAL | 1, 3, _, _ => kE_ADAG | 2, 0, _, _ => kE_ALAF | 2, 1, _, _ => kE_ALAD | 2, 2, _, _ => kE_ALAL | 2, 3, _, _ => kE_ALAG | 3, 0, _, _ => kE_AGAF | 3, 1, _, _ => kE_AGAD | 3, 2, _, _ => kE_AGAL | 3, 3, _, _ => kE_AGAG | i + 4, _, h, _ => absurd h (by omega) | 0, j + 4, _, h => absurd h (by omega) | 1, j + 4, _, h => absurd h (by omega) | 2, j + 4, _, h => absurd h (by omega) | 3, j + 4, _, h => absurd h (by omega)), (fun i hi => match i, hi with | 0, _ => kTE_AF | 1, _ => kTE_AD | 2, _ => kTE_AL | 3, _ => kTE_AG | i + 4, h => absurd h (by omega)), (fun i hi => match i, hi with | 0, _ => kR_AF | 1, _ => kR_AD | 2, _ => kR_AL | 3, _ => kR_AG | i + 4, h => absurd h (by omega)), n_AF_size, n_AD_x, n_AD_y, n_AD_w, n_AL_one, n_AL_other, n_AG_one, n_AG_other, ⟨_, PySem.W.mg_of X G gMS, ⟨_, rfl⟩⟩, ⟨_, PySem.W.mg_of X G gMD, ⟨_, rfl⟩⟩, ⟨_, PySem.W.mg_of X G gMA, ⟨_, rfl⟩⟩, ⟨_, PySem.W.mg_of X G gMP, ⟨_, rfl⟩⟩, ⟨_, PySem.W.mg_of X G gMR, ⟨_, rfl⟩⟩⟩
  have F1 := fun_mk (st := s_is_integer) l1 c1 k1
  have F2 := fun_mk (st := s_is_within) l2 c2 k2
  have F3 := fun_mk (st := s_is_size) l3 c3 k3
  have F4 := fun_mk (st := s_is_joinable) l4 c4 k4
  have F5 := fun_mk (st := s_need_joined) l5 c5 k5
  have F6 := fun_mk (st := s_is_figures) l6 c6 k6
  have F7 := fun_mk (st := s_number_of) l7 c7 k7
  have F8 := fun_mk (st := s_word_at) l8 c8 k8
  have F9 := fun_mk (st := s_need_numbers) l9 c9 k9
  have F10 := fun_mk (st := s_bounds_of) l10 c10 k10
  have F11 := fun_mk (st := s_rule_end) l11 c11 k11
  have F12 := fun_mk (st := s_rule_told) l12 c12 k12
  have F13 := fun_mk (st := s__law_heard) l13 c13 k13
  have F14 := fun_mk (st := s__law_pen) l14 c14 k14
  have F15 := fun_mk (st := s__law_draw) l15 c15 k15
  have F16 := fun_mk (st := s__law_pick) l16 c16 k16
  have F17 := fun_mk (st := s__law_leaf) l17 c17 k17
  have F18 := fun_mk (st := s__law_plain) l18 c18 k18
  have F19 := fun_mk (st := s__law_text) l19 c19 k19
  have F20 := fun_mk (st := s__law_is_number) l20 c20 k20
  have F21 := fun_mk (st := s__law_rule_end) l21 c21 k21
  have F22 := fun_mk (st := s__law_due) l22 c22 k22
  have F23 : FunC K "_law_read_right" "_law_read_right" s__law_read_right ct0 f23 _ := ⟨⟨_, _, _, _, _, _, _, _, rfl, l23, c23⟩⟩
  have F24 := fun_mk (st := s__law_bent) l24 c24 k24
  have F25 : FunC K "law" "law" s_law ctt1 _ _ := ⟨⟨_, _, _, _, _, _, _, _, rfl, l25, c25⟩⟩
  have F_AF___init__ := fun_mk l_AF___init__ c_AF___init__ k_AF___init__
  have F_AF___str__ := fun_mk l_AF___str__ c_AF___str__ k_AF___str__
  have F_AD___init__ := fun_mk l_AD___init__ c_AD___init__ k_AD___init__
  have F_AD___str__ := fun_mk l_AD___str__ c_AD___str__ k_AD___str__
  have F_AL___init__ := fun_mk l_AL___init__ c_AL___init__ k_AL___init__
  have F_AL___str__ := fun_mk l_AL___str__ c_AL___str__ k_AL___str__
  have F_AG___init__ := fun_mk l_AG___init__ c_AG___init__ k_AG___init__
  have F_AG___str__ := fun_mk l_AG___str__ c_AG___str__ k_AG___str__
  have F_CR0_read := fun_mk l_CR0_read c_CR0_read k_CR0_read
  refine ⟨PySem.W.fnOf "law" "law" (defArgs s_law) (defBody s_law) (defScope s_law) .none kV25 dc25 pm25 an25 (.ref ctt1) ct25, [(ct0, Pt), (ctt1, Pt1)], spLaw K [(Pt, lamQ1), (Pt1, lamQ2)], ?_, ?_, ?_, (fun s u => BindsTo.of_eq rfl), ?_, fun base kb nb tb => ?_⟩
  · intro p hp
    simp only [List.mem_cons, List.not_mem_nil, or_false] at hp
    rcases hp with rfl | rfl
    · exact tPPt
    · exact tPPt1
  · intro p hp
    simp only [List.mem_cons, List.not_mem_nil, or_false] at hp
    rcases hp with rfl | rfl
    · exact nPPt
    · exact nPPt1
  · intro p hp
    simp only [List.mem_cons, List.not_mem_nil, or_false] at hp
    rcases hp with rfl | rfl
    · exact PySem.W.codeHd_of_K X hCPt
    · exact PySem.W.codeHd_of_K X hCPt1
  · intro H a ns hl hH hS
    refine ⟨a, ns, rfl, hS, hl, (fun p hp => ?_), fun _ => rfl⟩
    simp only [List.mem_cons, List.not_mem_nil, or_false] at hp
    rcases hp with rfl | rfl
    · exact tab0 (hH _ List.mem_cons_self)
    · exact tab0 (hH _ (List.mem_cons_of_mem _ List.mem_cons_self))
  have SZS : SupF l.prog K mg CS fZS cdZS ccZS (defScope s_BadSize___init__) := ⟨⟨eZS, sZS, xZS, yZS, kZS⟩, ⟨_, _, _, qZS⟩, ⟨_, _, _, _, _, _, uZS, vZS, wZS⟩, mZS, PySem.W.mg_none_of X G zS, tS, oB, pZS, bZS, by decide +kernel, by decide +kernel⟩
  have e_BadSize : Er1 l.prog w K mg base "BadSize" CS "value" := ⟨⟨eZS, sZS, xZS, yZS, kZS⟩, PySem.W.mg_of X G aZS, fZS, _, "value", iZS, tZS, ok_BadSize lZS cZS SZS nZS_value, .all (fun us hl => match us, hl with | [_, _], _ => rfl)⟩
  have SZR : SupF l.prog K mg CR fZR cdZR ccZR (defScope s_BadRule___init__) := ⟨⟨eZR, sZR, xZR, yZR, kZR⟩, ⟨_, _, _, qZR⟩, ⟨_, _, _, _, _, _, uZR, vZR, wZR⟩, mZR, PySem.W.mg_none_of X G zS, tS, oB, pZR, bZR, by decide +kernel, by decide +kernel⟩
  have e_BadRule : Er1 l.prog w K mg base "BadRule" CR "part" := ⟨⟨eZR, sZR, xZR, yZR, kZR⟩, PySem.W.mg_of X G aZR, fZR, _, "part", iZR, tZR, ok_BadRule lZR cZR SZR nZR_part, .all (fun us hl => match us, hl with | [_, _], _ => rfl)⟩
  have SZM : SupF l.prog K mg CM fZM cdZM ccZM (defScope s_TooMany___init__) := ⟨⟨eZM, sZM, xZM, yZM, kZM⟩, ⟨_, _, _, qZM⟩, ⟨_, _, _, _, _, _, uZM, vZM, wZM⟩, mZM, PySem.W.mg_none_of X G zS, tS, oB, pZM, bZM, by decide +kernel, by decide +kernel⟩
  have e_TooMany : Er2 l.prog w K mg base "TooMany" CM "what" "most" := ⟨⟨eZM, sZM, xZM, yZM, kZM⟩, PySem.W.mg_of X G aZM, fZM, _, "what", "most", iZM, tZM, ok_TooMany lZM cZM SZM nZM_what nZM_most, .all (fun us hl => match us, hl with | [_, _, _], _ => rfl)⟩
  have SZW : SupF l.prog K mg CW fZW cdZW ccZW (defScope s_BadText___init__) := ⟨⟨eZW, sZW, xZW, yZW, kZW⟩, ⟨_, _, _, qZW⟩, ⟨_, _, _, _, _, _, uZW, vZW, wZW⟩, mZW, PySem.W.mg_none_of X G zS, tS, oB, pZW, bZW, by decide +kernel, by decide +kernel⟩
  have e_BadText : Er2 l.prog w K mg base "BadText" CW "line" "word" := ⟨⟨eZW, sZW, xZW, yZW, kZW⟩, PySem.W.mg_of X G aZW, fZW, _, "line", "word", iZW, tZW, ok_BadText lZW cZW SZW nZW_line nZW_word, .all (fun us hl => match us, hl with | [_, _, _], _ => rfl)⟩
  have c_is_integer : FnO l.prog w K mg base CX0 1 "is_integer" ["value"] spIsI := ⟨⟨f1, _, ok_is_integer F1 T, PySem.W.mg_of X G a1, k1, bMk F1 (fun _ _ _ _ _ _ us hl => match us, hl with | [_], _ => rfl)⟩⟩
  have c_is_within : FnO l.prog w K mg base CX0 2 "is_within" ["value", "least", "most"] spWithin := ⟨⟨f2, _, ok_is_within F2 T c_is_integer, PySem.W.mg_of X G a2, k2, bMk F2 (fun _ _ _ _ _ _ us hl => match us, hl with | [_, _, _], _ => rfl)⟩⟩
  have c_is_size : FnO l.prog w K mg base CX0 3 "is_size" ["value"] spSize := ⟨⟨f3, _, ok_is_size F3 T c_is_within, PySem.W.mg_of X G a3, k3, bMk F3 (fun _ _ _ _ _ _ us hl => match us, hl with | [_], _ => rfl)⟩⟩
  have c_is_joinable : FnO l.prog w K mg base CX0 1 "is_joinable" ["value"] (spJnb K ⟨AF, AD, AL, AG⟩) := ⟨⟨f4, _, ok_jnb F4 T, PySem.W.mg_of X G a4, k4, bMk F4 (fun _ _ _ _ _ _ us hl => match us, hl with | [_], _ => rfl)⟩⟩
  have c_need_joined : FnO l.prog w K mg base (L2.CX l.prog w) 3 "need_joined" ["one", "other"] (spNeedJ K ⟨AF, AD, AL, AG⟩ CR CM) := ⟨⟨f5, _, ok_needJ F5 T c_is_joinable e_BadRule e_TooMany, PySem.W.mg_of X G a5, k5, bMk F5 (fun _ _ _ _ _ _ us hl => match us, hl with | [_, _], _ => rfl)⟩⟩
  have o_AF := ok_fixed (P := l.prog) (w := w) (base := base) F_AF___init__ T c_is_size e_BadSize
  have m_Fixed_1 : McO l.prog w K mg base (L2.CX l.prog w) 4 "Fixed" AF ["self", "size"] (spFx AF CS) [] := ⟨⟨g_AF___init__, _, _, o_AF, PySem.W.mg_of X G a_AF, ⟨mk_AF, a_AF___init__, i_AF___init__, kc_AF⟩, bMk F_AF___init__ (fun _ _ _ _ _ _ us hl => match us, hl with | [_, _], _ => rfl), .nil⟩⟩
  have o_AD := ok_divided (P := l.prog) (w := w) (base := base) F_AD___init__ T c_is_within e_BadRule
  have m_Divided_3 : McO l.prog w K mg base (L2.CX l.prog w) 3 "Divided" AD ["self", "x", "y", "w"] (spDv AD CR) [] := ⟨⟨g_AD___init__, _, _, o_AD, PySem.W.mg_of X G a_AD, ⟨mk_AD, a_AD___init__, i_AD___init__, kc_AD⟩, bMk F_AD___init__ (fun _ _ _ _ _ _ us hl => match us, hl with | [_, _, _, _], _ => rfl), .nil⟩⟩
  have o_AL := ok_Lesser (P := l.prog) (w := w) (base := base) F_AL___init__ T c_need_joined
  have m_Lesser_2 : McO l.prog w K mg base (L2.CX l.prog w) 4 "Lesser" AL ["self", "one", "other"] (spJn0 K ⟨AF, AD, AL, AG⟩ CR CM true) [] := ⟨⟨g_AL___init__, _, _, o_AL, PySem.W.mg_of X G a_AL, ⟨mk_AL, a_AL___init__, i_AL___init__, kc_AL⟩, bMk F_AL___init__ (fun _ _ _ _ _ _ us hl => match us, hl with | [_, _, _], _ => rfl), .nil⟩⟩
  have o_AG := ok_Greater (P := l.prog) (w := w) (base := base) F_AG___init__ T c_need_joined
  have m_Greater_2 : McO l.prog w K mg base (L2.CX l.prog w) 4 "Greater" AG ["self", "one", "other"] (spJn0 K ⟨AF, AD, AL, AG⟩ CR CM false) [] := ⟨⟨g_AG___init__, _, _, o_AG, PySem.W.mg_of X G a_AG, ⟨mk_AG, a_AG___init__, i_AG___init__, kc_AG⟩, bMk F_AG___init__ (fun _ _ _ _ _ _ us hl => match us, hl with | [_, _, _], _ => rfl), .nil⟩⟩
  have TR : TxtR K mg ⟨AF, AD, AL, AG⟩ CR0 0 CS CR CM CL CW := ⟨T, ⟨⟨_, PySem.W.mg_of X G aZW, rfl⟩, ⟨gZW, hZW, xZW, dZW, jZW, yb, yc, rZW⟩, ⟨gZW, hZW, xZW, dZW⟩, (List.forall_mem_cons.mpr ⟨nZW_line, (List.forall_mem_cons.mpr ⟨nZW_word, (fun _ h => nomatch h)⟩)⟩), k1ZW, emZW⟩, digs, ⟨_, PySem.W.mg_of X G gMF, ⟨_, rfl⟩⟩⟩
  have c_is_figures : FnO l.prog w K mg base CX0 1 "is_figures" ["word"] spFig := ⟨⟨f6, _, ok_is_figures F6 TR, PySem.W.mg_of X G a6, k6, bMk F6 (fun _ _ _ _ _ _ us hl => match us, hl with | [_], _ => rfl)⟩⟩
  have c_number_of : FnO l.prog w K mg base CX0 2 "number_of" ["word", "least", "most"] spNum := ⟨⟨f7, _, ok_number_of F7 TR c_is_figures, PySem.W.mg_of X G a7, k7, bMk F7 (fun _ _ _ _ _ _ us hl => match us, hl with | [_, _, _], _ => rfl)⟩⟩
  have c_word_at : FnO l.prog w K mg base CX0 1 "word_at" ["words", "at"] spWordAt := ⟨⟨f8, _, ok_word_at F8 TR, PySem.W.mg_of X G a8, k8, bMk F8 (fun _ _ _ _ _ _ us hl => match us, hl with | [_, _], _ => rfl)⟩⟩
  have c_need_numbers : FnO l.prog w K mg base (L2.CX l.prog w) 3 "need_numbers" ["words", "at", "bounds"] (spNums CW) := ⟨⟨f9, _, ok_nums F9 TR c_word_at c_number_of e_BadText, PySem.W.mg_of X G a9, k9, bMk F9 (fun _ _ _ _ _ _ us hl => match us, hl with | [_, _, _], _ => rfl)⟩⟩
  have c_bounds_of : FnO l.prog w K mg base CX0 1 "bounds_of" ["word"] spBounds := ⟨⟨f10, _, ok_bounds F10 TR, PySem.W.mg_of X G a10, k10, bMk F10 (fun _ _ _ _ _ _ us hl => match us, hl with | [_], _ => rfl)⟩⟩
  have c_rule_end : FnO l.prog w K mg base (L2.CX l.prog w) 4 "rule_end" ["words", "begin"] (spRuleEnd CW) := ⟨⟨f11, _, ok_rule_end F11 TR c_word_at c_bounds_of c_need_numbers e_BadText, PySem.W.mg_of X G a11, k11, bMk F11 (fun _ _ _ _ _ _ us hl => match us, hl with | [_, _], _ => rfl)⟩⟩
  have r_rule_told : ∀ m, FnO l.prog w K mg base (L2.CX l.prog w) (m + 6) "rule_told" ["words", "at"] (spTold ⟨AF, AD, AL, AG⟩ CM m) := by
    intro m
    induction m with
    | zero => exact ⟨⟨f12, _, sp_void (fun vs H Q E z => by obtain ⟨l, ws, i, t, r, _, _, _, _, _, h, _⟩ := z; have := t.n_pos; omega) 6, PySem.W.mg_of X G a12, k12, bMk F12 (fun _ _ _ _ _ _ us hl => match us, hl with | [_, _], _ => rfl)⟩⟩
    | succ m ih => exact ⟨⟨f12, _, ok_told F12 TR m ih m_Fixed_1 m_Divided_3 m_Lesser_2 m_Greater_2, PySem.W.mg_of X G a12, k12, bMk F12 (fun _ _ _ _ _ _ us hl => match us, hl with | [_, _], _ => rfl)⟩⟩
  have c_rule_told : FnO l.prog w K mg base (L2.CX l.prog w) 12 "rule_told" ["words", "at"] (spTold ⟨AF, AD, AL, AG⟩ CM 6) := r_rule_told 6
  have st_read : StM l.prog w K mg base (L2.CX l.prog w) 13 CR0 "read" ["text"] (spReadR K ⟨AF, AD, AL, AG⟩ CM CW) := ⟨⟨.type "type", p_CR0_read, g_CR0_read, _, rest_CR0_read, ⟨sr_CR0, sg_CR0⟩, sf_CR0_read, sc_CR0_read, rfl, k_CR0_read, ok_readR F_CR0_read TR c_rule_end c_rule_told e_BadText, bMk F_CR0_read (fun _ _ _ _ _ _ us hl => match us, hl with | [_], _ => rfl), bkMk F_CR0_read (fun _ _ _ _ _ _ us hl => match us, hl with | [_], _ => rfl)⟩⟩
  have mf_all : ∀ m j, j < 4 → MeF l.prog w K mg base (RA.at ⟨AF, AD, AL, AG⟩ j) (2 * m + 1) (spStrR ⟨AF, AD, AL, AG⟩ j m) := by
    intro m
    induction m with
    | zero =>
      intro j hj
      match j, hj with
      | 0, _ => exact ⟨⟨⟨g_AF___str__, _, a_AF___str__, i_AF___str__, sp_void (fun vs H Q E z => by obtain ⟨t, p, ps, _, _, _, _, h, _⟩ := z; have := t.n_pos; omega) 1, bMk F_AF___str__ (fun _ _ _ _ _ _ us hl => match us, hl with | [_], _ => rfl)⟩⟩, fm_AF, yd_AF⟩
      | 1, _ => exact ⟨⟨⟨g_AD___str__, _, a_AD___str__, i_AD___str__, sp_void (fun vs H Q E z => by obtain ⟨t, p, ps, _, _, _, _, h, _⟩ := z; have := t.n_pos; omega) 1, bMk F_AD___str__ (fun _ _ _ _ _ _ us hl => match us, hl with | [_], _ => rfl)⟩⟩, fm_AD, yd_AD⟩
      | 2, _ => exact ⟨⟨⟨g_AL___str__, _, a_AL___str__, i_AL___str__, sp_void (fun vs H Q E z => by obtain ⟨t, p, ps, _, _, _, _, h, _⟩ := z; have := t.n_pos; omega) 1, bMk F_AL___str__ (fun _ _ _ _ _ _ us hl => match us, hl with | [_], _ => rfl)⟩⟩, fm_AL, yd_AL⟩
      | 3, _ => exact ⟨⟨⟨g_AG___str__, _, a_AG___str__, i_AG___str__, sp_void (fun vs H Q E z => by obtain ⟨t, p, ps, _, _, _, _, h, _⟩ := z; have := t.n_pos; omega) 1, bMk F_AG___str__ (fun _ _ _ _ _ _ us hl => match us, hl with | [_], _ => rfl)⟩⟩, fm_AG, yd_AG⟩
      | j + 4, h => exact absurd h (by omega)
    | succ m ih =>
      intro j hj
      match j, hj with
      | 0, _ => exact ⟨⟨⟨g_AF___str__, _, a_AF___str__, i_AF___str__, FnOk.mono (ok_Fstr F_AF___str__ TR (m + 1)) (by omega), bMk F_AF___str__ (fun _ _ _ _ _ _ us hl => match us, hl with | [_], _ => rfl)⟩⟩, fm_AF, yd_AF⟩
      | 1, _ => exact ⟨⟨⟨g_AD___str__, _, a_AD___str__, i_AD___str__, FnOk.mono (ok_Dstr F_AD___str__ TR (m + 1)) (by omega), bMk F_AD___str__ (fun _ _ _ _ _ _ us hl => match us, hl with | [_], _ => rfl)⟩⟩, fm_AD, yd_AD⟩
      | 2, _ => exact ⟨⟨⟨g_AL___str__, _, a_AL___str__, i_AL___str__, ok_Lstr F_AL___str__ TR m ih, bMk F_AL___str__ (fun _ _ _ _ _ _ us hl => match us, hl with | [_], _ => rfl)⟩⟩, fm_AL, yd_AL⟩
      | 3, _ => exact ⟨⟨⟨g_AG___str__, _, a_AG___str__, i_AG___str__, ok_Gstr F_AG___str__ TR m ih, bMk F_AG___str__ (fun _ _ _ _ _ _ us hl => match us, hl with | [_], _ => rfl)⟩⟩, fm_AG, yd_AG⟩
      | j + 4, h => exact absurd h (by omega)
  have me_str : ∀ j, j < 4 → Me l.prog w K mg base (RA.at ⟨AF, AD, AL, AG⟩ j) "__str__" 13 ["self"] (spStrR ⟨AF, AD, AL, AG⟩ j 6) := fun j hj => (mf_all 6 j hj).me
  have FH : HeF K mg := ⟨f13, _, F13, PySem.W.mg_of X G a13, bMk F13 (fun _ _ _ _ _ _ us hl => match us, hl with | [_], _ => rfl)⟩
  have F6 : Kit6 K mg CS CR CM CE CT CW CL := ⟨⟨⟨_, PySem.W.mg_of X G aZE, rfl⟩, ⟨gZE, hZE, xZE, dZE, jZE, yb, yc, rZE⟩, ⟨gZE, hZE, xZE, dZE⟩, (List.forall_mem_cons.mpr ⟨nZE_value, (fun _ h => nomatch h)⟩), k1ZE, emZE⟩, ⟨⟨_, PySem.W.mg_of X G aZT, rfl⟩, ⟨gZT, hZT, xZT, dZT, jZT, yb, yc, rZT⟩, ⟨gZT, hZT, xZT, dZT⟩, (List.forall_mem_cons.mpr ⟨nZT_value, (fun _ h => nomatch h)⟩), k1ZT, emZT⟩, ⟨⟨_, PySem.W.mg_of X G aZW, rfl⟩, ⟨gZW, hZW, xZW, dZW, jZW, yb, yc, rZW⟩, ⟨gZW, hZW, xZW, dZW⟩, (List.forall_mem_cons.mpr ⟨nZW_line, (List.forall_mem_cons.mpr ⟨nZW_word, (fun _ h => nomatch h)⟩)⟩), k1ZW, emZW⟩, k6CSCR, k6CECR, k6CECS, k6CTCR, k6CTCS, k6CTCE, k6CWCR, k6CWCS, k6CWCE, k6CWCT, k6CMCR, k6CMCS, k6CMCE, k6CMCT, k6CMCW⟩
  have c__law_pen : Fn l.prog w K mg base CX0 1 "_law_pen" ["_law_script"] (spPen K) := fnMk F14 (ok_pen F14 T) (PySem.W.mg_of X G a14) (fun _ _ _ _ _ _ us hl => match us, hl with | [_], _ => rfl) (fun _ _ _ _ _ _ us hl => match us, hl with | [_], _ => rfl)
  have c__law_draw : Fn l.prog w K mg base CX0 1 "_law_draw" ["_law_pen_here", "_law_many"] spDraw := fnMk F15 (ok_draw F15 T) (PySem.W.mg_of X G a15) (fun _ _ _ _ _ _ us hl => match us, hl with | [_, _], _ => rfl) (fun _ _ _ _ _ _ us hl => match us, hl with | [_, _], _ => rfl)
  have c__law_pick : Fn l.prog w K mg base CX0 2 "_law_pick" ["_law_pen_here", "_law_some"] spPick := fnMk F16 (ok_pick F16 T c__law_draw) (PySem.W.mg_of X G a16) (fun _ _ _ _ _ _ us hl => match us, hl with | [_, _], _ => rfl) (fun _ _ _ _ _ _ us hl => match us, hl with | [_, _], _ => rfl)
  have c__law_leaf : Fn l.prog w K mg base CX0 3 "_law_leaf" ["_law_pen_here"] spLeaf := fnMk F17 (ok_leaf F17 T c__law_draw c__law_pick) (PySem.W.mg_of X G a17) (fun _ _ _ _ _ _ us hl => match us, hl with | [_], _ => rfl) (fun _ _ _ _ _ _ us hl => match us, hl with | [_], _ => rfl)
  have r__law_plain : ∀ m, Fn l.prog w K mg base CX0 (m + 3) "_law_plain" ["_law_pen_here", "_law_many"] (spPlain m) := by
    intro m
    induction m with
    | zero => exact fnMk F18 (FnG.of (sp_void (fun vs H Q E z => by obtain ⟨p, n, j, _, h1, h2, _⟩ := z; omega) 3)) (PySem.W.mg_of X G a18) (fun _ _ _ _ _ _ us hl => match us, hl with | [_, _], _ => rfl) (fun _ _ _ _ _ _ us hl => match us, hl with | [_, _], _ => rfl)
    | succ m ih => exact fnMk F18 (ok_plain F18 T m c__law_draw c__law_pick c__law_leaf ih) (PySem.W.mg_of X G a18) (fun _ _ _ _ _ _ us hl => match us, hl with | [_, _], _ => rfl) (fun _ _ _ _ _ _ us hl => match us, hl with | [_, _], _ => rfl)
  have c__law_plain : Fn l.prog w K mg base CX0 10 "_law_plain" ["_law_pen_here", "_law_many"] (spPlain 7) := r__law_plain 7
  have r__law_text : ∀ m, Fn l.prog w K mg base CX0 (m + 1) "_law_text" ["_law_plain_here"] (spText m) := by
    intro m
    induction m with
    | zero => exact fnMk F19 (FnG.of (sp_void (fun vs H Q E z => by obtain ⟨t, v, _, _, _, h, _⟩ := z; have := t.n_pos; omega) 1)) (PySem.W.mg_of X G a19) (fun _ _ _ _ _ _ us hl => match us, hl with | [_], _ => rfl) (fun _ _ _ _ _ _ us hl => match us, hl with | [_], _ => rfl)
    | succ m ih => exact fnMk F19 (ok_text F19 TR m ih) (PySem.W.mg_of X G a19) (fun _ _ _ _ _ _ us hl => match us, hl with | [_], _ => rfl) (fun _ _ _ _ _ _ us hl => match us, hl with | [_], _ => rfl)
  have c__law_text : Fn l.prog w K mg base CX0 8 "_law_text" ["_law_plain_here"] (spText 7) := r__law_text 7
  have c__law_is_number : Fn l.prog w K mg base CX0 1 "_law_is_number" ["_law_words", "_law_at_so", "_law_low", "_law_high"] spIsN := fnMk F20 (ok_isN F20 TR) (PySem.W.mg_of X G a20) (fun _ _ _ _ _ _ us hl => match us, hl with | [_, _, _, _], _ => rfl) (fun _ _ _ _ _ _ us hl => match us, hl with | [_, _, _, _], _ => rfl)
  have r__law_rule_end : ∀ m, Fn l.prog w K mg base CX0 (m + 1) "_law_rule_end" ["_law_words", "_law_at_so", "_law_many"] (spREnd m) := by
    intro m
    induction m with
    | zero => exact fnMk F21 (FnG.of (sp_void (fun vs H Q E z => by obtain ⟨l, ws, i, n, _, _, _, _, h1, h2, _⟩ := z; omega) 1)) (PySem.W.mg_of X G a21) (fun _ _ _ _ _ _ us hl => match us, hl with | [_, _, _], _ => rfl) (fun _ _ _ _ _ _ us hl => match us, hl with | [_, _, _], _ => rfl)
    | succ m ih => exact fnMk F21 (ok_rend F21 TR m c__law_is_number ih) (PySem.W.mg_of X G a21) (fun _ _ _ _ _ _ us hl => match us, hl with | [_, _, _], _ => rfl) (fun _ _ _ _ _ _ us hl => match us, hl with | [_, _, _], _ => rfl)
  have c__law_rule_end : Fn l.prog w K mg base CX0 72 "_law_rule_end" ["_law_words", "_law_at_so", "_law_many"] (spREnd 71) := r__law_rule_end 71
  have c__law_due : Fn l.prog w K mg base CX0 73 "_law_due" ["_law_page"] (spDue 70) := fnMk F22 (ok_due F22 TR 70 71 (by decide) c__law_rule_end) (PySem.W.mg_of X G a22) (fun _ _ _ _ _ _ us hl => match us, hl with | [_], _ => rfl) (fun _ _ _ _ _ _ us hl => match us, hl with | [_], _ => rfl)
  have c__law_read_right : Fn l.prog w K mg base CX0 75 "_law_read_right" ["_law_page"] (spRdR [(Pt, lamQ1), (Pt1, lamQ2)]) := fnMk (F23.fun k23) (ok_rdr F23 (tb _ List.mem_cons_self) List.mem_cons_self (fun p hp e => tt_uniq hPd hp List.mem_cons_self e) T F6 FH c__law_due st_read me_str) (PySem.W.mg_of X G a23) (fun _ _ _ _ _ _ us hl => match us, hl with | [_], _ => rfl) (fun _ _ _ _ _ _ us hl => match us, hl with | [_], _ => rfl)
  have c__law_bent : Fn l.prog w K mg base CX0 3 "_law_bent" ["_law_pen_here", "_law_page"] spBent := fnMk F24 (ok_bent F24 T c__law_draw c__law_pick) (PySem.W.mg_of X G a24) (fun _ _ _ _ _ _ us hl => match us, hl with | [_, _], _ => rfl) (fun _ _ _ _ _ _ us hl => match us, hl with | [_, _], _ => rfl)
  exact ok_law F25 (tb _ (List.mem_cons_of_mem _ List.mem_cons_self)) (List.mem_cons_of_mem _ List.mem_cons_self) (fun p hp e => tt_uniq hPd hp (List.mem_cons_of_mem _ List.mem_cons_self) e) T F6 FH kFS c__law_pen c__law_draw c__law_pick c__law_plain c__law_text c__law_bent c__law_due c__law_read_right m_Fixed_1 st_read
end K49
end
section
set_option maxRecDepth 100000 in
set_option maxHeartbeats 0 in
theorem PySem.Challenge.cw_latechunks_k49_texts_that_are_no_rules_holds : PySem.Challenge.rw_latechunks_k49_texts_that_are_no_rules.Holds :=
  K49H.head @K49.all_mk
end
