import PyProof.Rows.All
import Wide.All
import OpenK.AllK
import Wide.FinOn
import HandS.ForMost
import HandS.Wide
import HandS.IsInst
import HandS.Defaults
import HandS.Evl
import HandS.EndTab
import HandS.Lambda
import HandS.Style
import HandS.Steps
import HandS.Text
import PyProof.ReprRoads
import PyProof.ListStr
import PyProof.StrOps2
import HandS.Walk
import HandS.ExcInit
import HandS.Nested
import HandS.ExcValue
import KE.KExcSuper
import HandS.ExcIs
import HandS.ExcField
import KE.KOpsOwn
import PyProof.Rows.Range3
import PyProof.Conv_bool
import HandS.HotCalls
import PyProof.EqAt
import HandS.ClsMeth
import HandS.MakeKwOnly
import HandS.FStr
import KE.KCallOwn
import PyProof.Rows.StrOr
import PyProof.TypeEq
import HandS.DeepEq
import KE.KEqDict
import HandS.Star
import HandS.Zip
import HandS.Flow
import PySem.Challenge.RW_latechunks_k09_chunks_made_and_refused
import HandS.TupMul
import OpenK.KOps
import HandS.TupAny
import HandS.SortInts
import HandS.IterVal
import OpenK.KMeth
import KE.KOwnIter
import PyProof.SliceList
import PyProof.IsiBase
import HandS.Head0
import HandS.Head1
import HandS.Head2
import KE.KNestM
set_option Elab.async false
set_option linter.all false
set_option maxRecDepth 100000
set_option maxHeartbeats 4000000
section
namespace L3
open PySem PySem.Spec PyProof.Rows L2
def PenO (a c : Addr) (n : Nat) : HO := .ext fun h => ∃ (spot rest : Int) (t u : Tok) (k : Nat),
  h.get? a = some { cls := .type "list", data := .seq #[.ref c, .int spot t, .int rest u] k } ∧ 0 ≤ spot ∧ spot ≤ n
theorem PenO_ok {P : Program} {w : World} {H : Hp} {h : Heap} {a c : Addr} {n : Nat} {spot rest : Int} {t u : Tok} {k : Nat}
    (e : h.get? a = some { cls := .type "list", data := .seq #[.ref c, .int spot t, .int rest u] k }) (h0 : 0 ≤ spot) (h1 : spot ≤ n) :
    ObjOk P w H h a (PenO a c n) :=
  ⟨⟨spot, rest, t, u, k, e, h0, h1⟩, ⟨_, e⟩, fun _ _ ⟨s, r, t, u, k, q, z⟩ f => ⟨s, r, t, u, k, f _ q, z⟩⟩
section
variable {X : Cx} {pins : List (Addr × Obj)} {σ : L2.St} {H : Hp} {s : Shared}
theorem Inv.penOpen {a c : Addr} {n : Nat} (I : Inv X pins σ H s) (h : H a = some (PenO a c n)) :
    ∃ spot rest : Int, 0 ≤ spot ∧ spot ≤ n ∧ Inv X pins σ (upd H a (.lst [.ref c, .int spot, .int rest])) s := by
  obtain ⟨⟨spot, rest, t, u, k, e, h0, h1⟩, _, _⟩ := (show ObjOk X.prog X.w H s.heap a (PenO a c n) from I.hok a _ h)
  refine ⟨spot, rest, h0, h1, ?_⟩
  have mu : Mut (H a) := by rw [h]; exact True.intro
  have := I.write (t' := s.toks) (h' := s.heap) (x := a) (e := a) (o := .lst [.ref c, .int spot, .int rest]) mu (.inl rfl) (fun _ _ _ q => q) ⟨_, e⟩
    ⟨(by rw [sizeLine_eq]; show 3 ≤ 16777216; decide), [.ref c, .int spot t, .int rest u], k, .cons rfl (.cons ⟨t, rfl⟩ (.cons ⟨u, rfl⟩ .nil)), e⟩
  exact this
theorem vals3 {x y z : V} {us : List Value} (r : Vals [x, y, z] us) : ∃ u v w, us = [u, v, w] ∧ RelV x u ∧ RelV y v ∧ RelV z w := by
  cases r with
  | cons r1 r =>
    cases r with
    | cons r2 r =>
      cases r with
      | cons r3 r =>
        cases r
        exact ⟨_, _, _, rfl, r1, r2, r3⟩
theorem Inv.penClose {a c : Addr} {n : Nat} {spot rest : Int} (I : Inv X pins σ H s) (h : H a = some (.lst [.ref c, .int spot, .int rest])) (h0 : 0 ≤ spot) (h1 : spot ≤ n) :
    Inv X pins σ (upd H a (PenO a c n)) s := by
  obtain ⟨_, its, k, r, e⟩ := (show ObjOk X.prog X.w H s.heap a (.lst _) from I.hok a _ h)
  obtain ⟨u, v, w, rfl, r1, ⟨t, r2⟩, ⟨t', r3⟩⟩ := vals3 r
  cases (show u = .ref c from r1)
  subst r2 r3
  have mu : Mut (H a) := by rw [h]; exact True.intro
  exact I.write (t' := s.toks) (h' := s.heap) (x := a) (e := a) (o := PenO a c n) mu (.inl rfl) (fun _ _ _ q => q) ⟨_, e⟩ (PenO_ok e h0 h1)
end
/-- inside: the list is known, behind: it is hidden again -/
def penBack (a c : Addr) (n : Nat) (P : Hp → Prop) (H : Hp) : Prop := ∃ spot rest : Int, H a = some (.lst [.ref c, .int spot, .int rest]) ∧ 0 ≤ spot ∧ spot ≤ n ∧ P (upd H a (PenO a c n))
def tPen (a c : Addr) (n m : Nat) (t : TS) : TS := fun D σ H => H a = some (PenO a c n) ∧ ∀ spot rest : Int, 0 ≤ spot → spot ≤ n →
  t { nx := fun σ' => penBack a c m (D.nx σ'), rt := fun v => penBack a c m (D.rt v), bk := fun σ' => penBack a c m (D.bk σ'), ct := fun σ' => penBack a c m (D.ct σ') } σ (upd H a (.lst [.ref c, .int spot, .int rest]))
theorem pss_pen {X : Cx} {sts : List Stmt} {t : TS} (a c : Addr) (n m : Nat) (h : PSs X sts t) : PSs X sts (tPen a c n m t) := by
  refine ⟨fun pins s σ H D I hw => ?_⟩
  obtain ⟨ha, hw⟩ := hw
  obtain ⟨spot, rest, h0, h1, I1⟩ := Inv.penOpen I ha
  refine thn (h.run pins s σ _ _ I1 (hw spot rest h0 h1)) fun f s' q => ?_
  cases f with
  | next =>
    obtain ⟨σ', H', I', sp, re, e, g0, g1, z⟩ := q
    exact ⟨σ', _, Inv.penClose I' e g0 g1, z⟩
  | brk =>
    obtain ⟨σ', H', I', sp, re, e, g0, g1, z⟩ := q
    exact ⟨σ', _, Inv.penClose I' e g0 g1, z⟩
  | cont =>
    obtain ⟨σ', H', I', sp, re, e, g0, g1, z⟩ := q
    exact ⟨σ', _, Inv.penClose I' e g0 g1, z⟩
  | ret u =>
    obtain ⟨v, σ', H', I', r, sp, re, e, g0, g1, z⟩ := q
    exact ⟨v, σ', _, Inv.penClose I' e g0 g1, r, z⟩
end L3
namespace L3
open PySem PySem.Spec PyProof.Rows L2
section
variable {σ : L2.St} {H : Hp} {D : Ends} {t u : TS} {te ta tb : TE} {Q : VK} {v x y : V} {K : PySem.W.Frag}
theorem iteB {b : Bool} {A B : Prop} (h1 : b = true → A) (h2 : b = false → B) : if b = true then A else B := by
  cases b with
  | true => exact iteT (h1 rfl)
  | false => exact iteF (h2 rfl)
theorem iteD {c : Prop} {_ : Decidable c} {A B : Prop} (h1 : c → A) (h2 : ¬ c → B) : if decide c = true then A else B := iteB (fun h => h1 (of_decide_eq_true h)) (fun h => h2 (of_decide_eq_false h))
theorem iteND {c : Prop} {_ : Decidable c} {A B : Prop} (h1 : ¬ c → A) (h2 : c → B) : if (!decide c) = true then A else B := iteB (fun h => h1 (by simpa using h)) (fun h => h2 (by simpa using h))
theorem s_seq (h : t { D with nx := u D } σ H) : tSeq t u D σ H := h
theorem s_next (h : D.nx σ H) : tNext D σ H := h
theorem s_asg {i : Nat} (h : te σ H fun x H1 => D.nx (σ.set i (some x)) H1) : tAsg te (gName i) D σ H := h
theorem s_asgS {to ti : TE} {t : TSet} (h : te σ H fun v H1 => to σ H1 fun o H2 => ti σ H2 fun i H3 => t o i v H3 fun H4 => D.nx σ H4) : tAsg te (gSub to ti t) D σ H := h
theorem s_drop (h : te σ H fun _ H1 => D.nx σ H1) : tDrop te D σ H := h
theorem s_ret (h : te σ H D.rt) : tRet te D σ H := h
theorem s_retN (h : D.rt .non H) : tRetN D σ H := h
theorem s_if {c : TT} (h : c σ H fun b H1 => if b = true then t D σ H1 else u D σ H1) : tIfS c t u D σ H := h
theorem s_var {i : Nat} (e : σ[i]? = some (some v)) (h : Q v H) : tVar i σ H Q := ⟨v, e, h⟩
theorem s_c (h : Q v H) : tC v σ H Q := h
theorem s_op {r : R2} (h : ta σ H fun x H1 => tb σ H1 fun y H2 => r x y H2 Q) : tOp r ta tb σ H Q := h
theorem s_un {r : V → Hp → VK → Prop} (h : ta σ H fun x H1 => r x H1 Q) : tUn r ta σ H Q := h
theorem s_cb {r : List V → Hp → VK → Prop} {tt : TA} (h : tt σ H fun vs H1 => r vs H1 Q) : tCB r tt σ H Q := h
theorem s_nil {Q : List V → Hp → Prop} (h : Q [] H) : tNil σ H Q := h
theorem s_cons {Q : List V → Hp → Prop} {tr : TA} (h : ta σ H fun x H1 => tr σ H1 fun xs H2 => Q (x :: xs) H2) : tCons ta tr σ H Q := h
theorem s_test {Q : Bool → Hp → Prop} (h : te σ H fun x H' => ∃ k, x = .bl k ∧ Q k H') : tTest te σ H Q := h
theorem s_tB {Q : Bool → Hp → Prop} (h : te σ H fun x H' => ∃ k, x = .bl k ∧ Q k H') : tB te σ H Q := h
theorem s_bl {R : Bool → Prop} {b : Bool} (h : R b) : ∃ k, V.bl b = .bl k ∧ R k := ⟨b, rfl, h⟩
theorem s_and {c d : TT} {Q : Bool → Hp → Prop} (h : c σ H fun b H1 => if b = true then d σ H1 Q else Q false H1) : tAnd c d σ H Q := h
theorem s_or {c d : TT} {Q : Bool → Hp → Prop} (h : c σ H fun b H1 => if b = true then Q true H1 else d σ H1 Q) : tOr c d σ H Q := h
theorem s_not {c : TT} {Q : Bool → Hp → Prop} (h : c σ H fun b H1 => Q (!b) H1) : tNot c σ H Q := h
theorem s_andV (h : ta σ H fun x H1 => ∃ c, x = .bl c ∧ if c = true then tb σ H1 Q else Q (.bl false) H1) : tAndV ta tb σ H Q := h
theorem s_orV (h : ta σ H fun x H1 => ∃ c, x = .bl c ∧ if c = true then Q (.bl true) H1 else tb σ H1 Q) : tOrV ta tb σ H Q := h
theorem s_notV (h : ta σ H fun x H1 => ∃ c, x = .bl c ∧ Q (.bl (!c)) H1) : tNotV ta σ H Q := h
theorem s_ifE {c : TT} (h : c σ H fun b H1 => if b = true then ta σ H1 Q else tb σ H1 Q) : tIf c ta tb σ H Q := h
theorem s_call {sp : Sp} {dvs : List V} {E : XK} {tt : TA} (h : tt σ H fun vs H1 => sp (vs ++ dvs) H1 Q E) : tCall sp dvs E tt σ H Q := h
theorem s_I0 {g : Int → Int → V} {i j : Int} (h : Q (g i j) H) : rI0 g (.int i) (.int j) H Q := ⟨i, j, rfl, rfl, h⟩
theorem s_I {C : Int → Int → Prop} {g : Int → Int → V} {i j : Int} (c : C i j) (h : Q (g i j) H) : rI C g (.int i) (.int j) H Q := ⟨i, j, rfl, rfl, c, h⟩
theorem s_U {g : Int → V} {i : Int} (h : Q (g i) H) : rU g (.int i) H Q := ⟨i, rfl, h⟩
theorem s_setL {p : Addr} {xs : List V} {i : Int} {j : Nat} {R : Hp → Prop} (hp : H p = some (.lst xs)) (e : ixN xs.length i = some j) (h : R (upd H p (.lst (xs.set j v)))) : rSetL (.ref p) (.int i) v H R := ⟨p, xs, i, j, rfl, rfl, hp, e, h⟩
theorem s_int {R : Int → Prop} {R' : Bool → Prop} {i : Int} (h : R i) : (∃ j, [V.int i] = [V.int j] ∧ R j) ∨ ∃ k, [V.int i] = [V.bl k] ∧ R' k := .inl ⟨i, rfl, h⟩
theorem s_intB {R : Int → Prop} {R' : Bool → Prop} {b : Bool} (h : R' b) : (∃ j, [V.bl b] = [V.int j] ∧ R j) ∨ ∃ k, [V.bl b] = [V.bl k] ∧ R' k := .inr ⟨b, rfl, h⟩
theorem s_abs {R : Int → Prop} {i : Int} (h : R i) : ∃ j, [V.int i] = [V.int j] ∧ R j := ⟨i, rfl, h⟩
theorem s_lenL {R : Nat → Prop} {p : Addr} {xs : List V} (hp : H p = some (.lst xs)) (h : R xs.length) : ∃ x n, [V.ref p] = [x] ∧ LenV K x H n ∧ R n := ⟨_, _, rfl, .inl ⟨xs, .inl (.inl hp), rfl⟩, h⟩
/-- all that is tracked stays -/
theorem ex_new {p : Addr} {o : HO} (h : H p = none) : ∀ b u, H b = some u → upd H p o b = some u := fun b u e => by
  rw [upd_ne (ne_of_none e h)]; exact e
def Ex (H H' : Hp) : Prop := ∀ b o, H b = some o → H' b = some o
theorem Ex.refl (H : Hp) : Ex H H := fun _ _ h => h
theorem Ex.trans {H H1 H2 : Hp} (a : Ex H H1) (b : Ex H1 H2) : Ex H H2 := fun x o h => b x o (a x o h)
theorem Ex.free {H H' : Hp} (e : Ex H H') {p : Addr} (h : H' p = none) : H p = none := by
  cases q : H p with
  | none => rfl
  | some o => rw [e _ _ q] at h; cases h
/-- what is wanted of a new thing (kept from being reduced) -/
def ap (Q : VK) (v : V) (H : Hp) : Prop := Q v H
theorem s_lst {tt : TA} (h : tt σ H fun xs H1 => xs.length ≤ sizeLine ∧ ∀ p, H1 p = none → ap Q (.ref p) (upd H1 p (.lst xs))) : tLst tt σ H Q := h
theorem s_tup {tt : TA} (h : tt σ H fun xs H1 => xs.length ≤ sizeLine ∧ ∀ p, H1 p = none → ap Q (.ref p) (upd H1 p (.tup xs))) : tTup tt σ H Q := h
theorem s_new {o : HO} {n : Nat} (hz : n ≤ sizeLine) (h : ∀ p H2, H p = none → Ex H H2 → H2 p = some o → Q (.ref p) H2) : n ≤ sizeLine ∧ ∀ p, H p = none → ap Q (.ref p) (upd H p o) :=
  ⟨hz, fun p hp => h p _ hp (ex_new hp) upd_same⟩
theorem s_cut {M : L2.St → Hp → Prop} (h : t { D with nx := M } σ H) (k : ∀ σ' H', M σ' H' → u D σ' H') : Evl.tCut t u D σ H := ⟨M, h, k⟩
theorem dpInts {H : Hp} : ∀ ns : List Int, DpAll K H (ns.map V.int) (ns.map PyData.int)
  | [] => .nil
  | _ :: r => .cons (.int _) (dpInts r)
theorem s_neD {d e : PyData} (hd : Dp K H x d) (he : Dp K H y e) (sd : SeqAt.shaped d = true) (se : SeqAt.shaped e = true) (h : Q (.bl (!PyData.eqv d e)) H) : rNeD K x y H Q := ⟨d, e, hd, he, sd, se, h⟩
theorem s_eqD {d e : PyData} (hd : Dp K H x d) (he : Dp K H y e) (sd : SeqAt.shaped d = true) (se : SeqAt.shaped e = true) (h : Q (.bl (PyData.eqv d e)) H) : rEqD K x y H Q := ⟨d, e, hd, he, sd, se, h⟩
end
end L3
namespace L3
open PySem PySem.Spec PyProof.Rows L2
def lim : Nat := 1000000
/-- the pen's cells: a list of numbers, hidden too -/
def ScO (c : Addr) (ns : List Int) : HO := .ext fun h => ∃ (its : List Value) (k : Nat), (ns.map V.int).length ≤ sizeLine ∧ Vals (ns.map V.int) its ∧ h.get? c = some { cls := .type "list", data := .seq its.toArray k }
section
variable {X : Cx} {pins : List (Addr × Obj)} {σ : L2.St} {H : Hp} {s : Shared}
theorem Inv.scOpen {c : Addr} {ns : List Int} (I : Inv X pins σ H s) (h : H c = some (ScO c ns)) : Inv X pins σ (upd H c (.lst (ns.map V.int))) s := by
  obtain ⟨⟨its, k, hz, r, e⟩, _, _⟩ := (show ObjOk X.prog X.w H s.heap c (ScO c ns) from I.hok c _ h)
  have mu : Mut (H c) := by rw [h]; exact True.intro
  exact I.write (t' := s.toks) (h' := s.heap) (x := c) (e := c) (o := .lst (ns.map V.int)) mu (.inl rfl) (fun _ _ _ q => q) ⟨_, e⟩ ⟨hz, its, k, r, e⟩
theorem Inv.scClose {c : Addr} {ns : List Int} (I : Inv X pins σ H s) (h : H c = some (.lst (ns.map V.int))) : Inv X pins σ (upd H c (ScO c ns)) s := by
  obtain ⟨hz, its, k, r, e⟩ := (show ObjOk X.prog X.w H s.heap c (.lst _) from I.hok c _ h)
  have mu : Mut (H c) := by rw [h]; exact True.intro
  exact I.write (t' := s.toks) (h' := s.heap) (x := c) (e := c) (o := ScO c ns) mu (.inl rfl) (fun _ _ _ q => q) ⟨_, e⟩
    ⟨⟨its, k, hz, r, e⟩, ⟨_, e⟩, fun _ _ ⟨i, k, z, r, q⟩ f => ⟨i, k, z, r, f _ q⟩⟩
end
def scBack (c : Addr) (ns : List Int) (P : Hp → Prop) (H : Hp) : Prop := H c = some (.lst (ns.map V.int)) ∧ P (upd H c (ScO c ns))
def tSc (c : Addr) (ns : List Int) (t : TS) : TS := fun D σ H => H c = some (ScO c ns) ∧
  t { nx := fun σ' => scBack c ns (D.nx σ'), rt := fun v => scBack c ns (D.rt v), bk := fun σ' => scBack c ns (D.bk σ'), ct := fun σ' => scBack c ns (D.ct σ') } σ (upd H c (.lst (ns.map V.int)))
theorem pss_sc {X : Cx} {sts : List Stmt} {t : TS} (c : Addr) (ns : List Int) (h : PSs X sts t) : PSs X sts (tSc c ns t) := by
  refine ⟨fun pins s σ H D I hw => ?_⟩
  obtain ⟨ha, hw⟩ := hw
  refine thn (h.run pins s σ _ _ (Inv.scOpen I ha) hw) fun f s' q => ?_
  cases f with
  | next =>
    obtain ⟨σ', H', I', e, z⟩ := q
    exact ⟨σ', _, Inv.scClose I' e, z⟩
  | brk =>
    obtain ⟨σ', H', I', e, z⟩ := q
    exact ⟨σ', _, Inv.scClose I' e, z⟩
  | cont =>
    obtain ⟨σ', H', I', e, z⟩ := q
    exact ⟨σ', _, Inv.scClose I' e, z⟩
  | ret u =>
    obtain ⟨v, σ', H', I', r, e, z⟩ := q
    exact ⟨v, σ', _, Inv.scClose I' e, r, z⟩
def Pen (H : Hp) (a : Addr) (n : Nat) : Prop := ∃ c ns, H a = some (PenO a c n) ∧ H c = some (ScO c ns) ∧ ns.length ≤ 63 ∧ c ≠ a
def NoTbl : HO → Prop
  | .tbl _ => False
  | _ => True
/-- all but the pen at a and the tables of code objects stays -/
def Xt (a : Addr) (H H' : Hp) : Prop := ∀ b o, b ≠ a → NoTbl o → H b = some o → H' b = some o
abbrev rInt1 : List V → Hp → VK → Prop := fun xs H Q => (∃ i, xs = [V.int i] ∧ Q (V.int i) H) ∨ ∃ k, xs = [V.bl k] ∧ Q (V.int (if k then 1 else 0)) H
abbrev rLen1 (K : PySem.W.Frag) : List V → Hp → VK → Prop := fun xs H Q => ∃ x n, xs = [x] ∧ LenV K x H n ∧ Q (V.int ((n : Nat) : Int)) H
abbrev rAbs1 : List V → Hp → VK → Prop := fun xs H Q => ∃ i, xs = [V.int i] ∧ Q (V.int (if i < 0 then -i else i)) H
/-- == and != of flat things, or of data -/
def rEqU (K : PySem.W.Frag) : R2 := fun x y H Q => rEq x y H Q ∨ rEqD K x y H Q
def rNeU (K : PySem.W.Frag) : R2 := fun x y H Q => rNe x y H Q ∨ rNeD K x y H Q
theorem dec_eqI (i j : Int) : decide (V.int i = V.int j) = decide (i = j) := by
  by_cases h : i = j
  · subst h; simp
  · rw [decide_eq_false h, decide_eq_false (fun z => h (V.int.inj z))]
theorem dec_eqS (i j : Str) : decide (V.str i = V.str j) = decide (i = j) := by
  by_cases h : i = j
  · subst h; simp
  · rw [decide_eq_false h, decide_eq_false (fun z => h (V.str.inj z))]
section
variable {K : PySem.W.Frag} {H : Hp} {Q : VK} {x y : V}
theorem s_eqI {i j : Int} (h : Q (.bl (decide (i = j))) H) : rEqU K (.int i) (.int j) H Q := .inl ⟨rfl, by rw [dec_eqI]; exact h⟩
theorem s_neI {i j : Int} (h : Q (.bl (!decide (i = j))) H) : rNeU K (.int i) (.int j) H Q := .inl ⟨rfl, by rw [dec_eqI]; exact h⟩
theorem s_eqS {i j : Str} (h : Q (.bl (decide (i = j))) H) : rEqU K (.str i) (.str j) H Q := .inl ⟨rfl, by rw [dec_eqS]; exact h⟩
theorem s_neS {i j : Str} (h : Q (.bl (!decide (i = j))) H) : rNeU K (.str i) (.str j) H Q := .inl ⟨rfl, by rw [dec_eqS]; exact h⟩
theorem s_neD' {d e : PyData} (hd : Dp K H x d) (he : Dp K H y e) (sd : SeqAt.shaped d = true) (se : SeqAt.shaped e = true) (h : Q (.bl (!PyData.eqv d e)) H) : rNeU K x y H Q := .inr ⟨d, e, hd, he, sd, se, h⟩
end
end L3
end
section
namespace L3
open PySem PySem.Spec PyProof.Rows L2
structure FnG (P : Program) (w : World) (K : PySem.W.Frag) (mg : Str → Option Value) (base : Heap) (CX : CXT) (k : Nat) (f : Addr) (fd : FuncData) (ps : List Str) (sp : Sp) : Prop where
  len : ∀ vs H Q E, sp vs H Q E → vs.length = ps.length
  run : ∀ (A : Around) (fr : List Env) (s : Shared) (H : Hp) (as : Args) (us : List Value) (vs : List V) (Q : VK) (E : XK), Room k A → A.guards = some [] → Env0 P w K mg base A fr s H →
    BindsTo s fd as (ps.zip us) → Vals vs us → sp vs H Q E → codeAny (model P w) A (.call (.ref f) as) (CR CX fr P w H s Q E) s
theorem FnG.of {P : Program} {w : World} {K : PySem.W.Frag} {mg : Str → Option Value} {base : Heap} {CX : CXT} {k : Nat} {f : Addr} {fd : FuncData} {ps : List Str} {sp : Sp} (F : FnOk P w K mg base CX k f fd ps sp) : FnG P w K mg base CX k f fd ps sp :=
  ⟨F.len, fun A fr s H as us vs Q E r _ => F.run A fr s H as us vs Q E r⟩
/-- THE RULE for such a def -/
theorem funG {P : Program} {w : World} {K : PySem.W.Frag} {mg : Str → Option Value} {base : Heap} {CX : CXT} {x qual : Str} {st : Stmt} {f : Addr} {fd : FuncData} {N ps : List Str} {k : Nat} {sp : Sp}
    (F : Fun K x qual st f fd) (S : FnScope N ps (defScope st)) (len : ∀ vs H Q E, sp vs H Q E → vs.length = ps.length)
    (body : ∀ (cd : Value) (A : Around) (fr : List Env) (s : Shared) (H : Hp) (vs : List V) (Q : VK) (E : XK), Room k (A.deeper (envOfC qual (defScope st) s.heap.objs.size f cd)) → A.guards = some [] → sp vs H Q E →
      ∃ t, PSs (cxOf CX P w K mg base N qual (defScope st) f cd A fr s H E) (defBody st) t ∧ t { nx := fun _ H' => Q .non H', rt := Q } (L2.start N vs) H) :
    FnG P w K mg base CX (k + 1) f fd ps sp := by
  obtain ⟨oc, od, kV, doc, pm, an, cd, ct, sl, rfl, lk, hcd⟩ := F.ex
  exact ⟨len, fun A fr s H as us vs Q E hr hg e0 hb r h => LamX.run_ofS lk hcd S hr e0 hb r (len _ _ _ _ h) fun hr' => body cd A fr s H vs Q E hr' hg h⟩
/-- a def whose code object is known (it makes lambdas) -/
structure FunC (K : PySem.W.Frag) (x qual : Str) (st : Stmt) (c f : Addr) (fd : FuncData) : Prop where
  ex : ∃ (oc : Value) (od : Option Addr) (kV doc pm : Value) (an : Option Addr) (ct : Value) (osl : Array (Option Value)),
    fd = PySem.W.fnOf x qual (defArgs st) (defBody st) (defScope st) .none kV doc pm an (.ref c) ct ∧ K.lookup f = some ⟨oc, od, .func fd, osl⟩ ∧ PySem.W.codeIn K (.ref c) qual = true
theorem FunC.fun {K : PySem.W.Frag} {x qual : Str} {st : Stmt} {c f : Addr} {fd : FuncData} (F : FunC K x qual st c f fd) (k : PySem.W.keepIn K (.ref f) = true) : Fun K x qual st f fd := by
  obtain ⟨oc, od, kV, doc, pm, an, ct, sl, e, l, h⟩ := F.ex
  exact ⟨⟨oc, od, kV, doc, pm, an, .ref c, ct, sl, e, l, h⟩, k⟩
theorem funGC {P : Program} {w : World} {K : PySem.W.Frag} {mg : Str → Option Value} {base : Heap} {CX : CXT} {x qual : Str} {st : Stmt} {c f : Addr} {fd : FuncData} {N ps : List Str} {k : Nat} {sp : Sp}
    (F : FunC K x qual st c f fd) (S : FnScope N ps (defScope st)) (len : ∀ vs H Q E, sp vs H Q E → vs.length = ps.length)
    (body : ∀ (A : Around) (fr : List Env) (s : Shared) (H : Hp) (vs : List V) (Q : VK) (E : XK), Room k (A.deeper (envOfC qual (defScope st) s.heap.objs.size f (.ref c))) → A.guards = some [] → sp vs H Q E →
      ∃ t, PSs (cxOf CX P w K mg base N qual (defScope st) f (.ref c) A fr s H E) (defBody st) t ∧ t { nx := fun _ H' => Q .non H', rt := Q } (L2.start N vs) H) :
    FnG P w K mg base CX (k + 1) f fd ps sp := by
  obtain ⟨oc, od, kV, doc, pm, an, ct, sl, rfl, lk, hcd⟩ := F.ex
  exact ⟨len, fun A fr s H as us vs Q E hr hg e0 hb r h => LamX.run_ofS lk hcd S hr e0 hb r (len _ _ _ _ h) fun hr' => body A fr s H vs Q E hr' hg h⟩
section
variable {X : Cx} {CX : CXT} {k : Nat} {f : Addr} {fd : FuncData} {ps : List Str} {sp : Sp} {E : XK} {x : Str} {p pos : Pos} {e : Expr} {es : List Expr} {t : TA}
theorem runG {pins : List (Addr × Obj)} {σ : L2.St} {H : Hp} {s : Shared} {Q : VK} {us : List Value} {vs : List V} (F : FnG X.prog X.w X.K X.mg X.base CX k f fd ps sp) (hr : Room k X.A) (hg : X.A.guards = some [])
    (hb : Binds X.K fd ps []) (hx : Passes CX X E) (I : Inv X pins σ H s) (r : Vals vs us) (h : sp vs H Q E) : wpAny (model X.prog X.w) X.A (call (.ref f) us) (EP X pins σ Q) X.xe s := by
  have hl : (us ++ []).length = ps.length := by rw [List.append_nil, ← r.length]; exact F.len _ _ _ _ h
  have b := hb s us I.kIn hl
  rw [List.append_nil] at b
  refine wpAny_call (codeAny_mono (F.run X.A X.stack s H ⟨us, []⟩ us vs Q E hr hg I.env0 b r h) fun q s' z => ?_)
  match q, z with
  | .error e, z => exact hx pins σ H s e s' I z
  | .ok (.ret u), z => exact I.after z
/-- a def of the module, called by its name, as one bundle -/
structure Fn (P : Program) (w : World) (K : PySem.W.Frag) (mg : Str → Option Value) (base : Heap) (CX : CXT) (k : Nat) (x : Str) (ps : List Str) (sp : Sp) : Prop where
  ex : ∃ (f : Addr) (fd : FuncData), FnG P w K mg base CX k f fd ps sp ∧ mg x = some (.ref f) ∧ PySem.W.keepIn K (.ref f) = true ∧ Binds K fd ps [] ∧
    ∀ (s : Shared) (ws : List Value), K.In s.heap → ws.length = ps.length → BindsTo s fd ⟨[], ps.zip ws⟩ (ps.zip ws)
theorem pe_f {j : Nat} (c : Fn X.prog X.w X.K X.mg X.base CX k x ps sp) (hr : Room j X.A) (hg : X.A.guards = some []) (hx : Passes CX X E) (ha : PA X (e :: es) t) (hk : k ≤ j := by decide) (gl : Gl X x := by rfl)
    (hdb : (x == ("__debug__" : Str)) = false := by decide) (he : starEach (e :: es) X.env = (false, eval e X.env) :: starEach es X.env := by rfl) (hpl : (backTo pos (starEach es X.env)).any (·.1) = false := by rfl) :
    PE X (.Call (.Name x p) (e :: es) [] pos) (tCall sp [] E t) := by
  obtain ⟨f, fd, F, m, kp, b, _⟩ := c.ex
  constructor
  intro pins s σ H Q I h
  refine wpAny_Call_Name_kw (ld_glob I gl m ?_ hdb)
  refine PySem.W.callWith_K (h₀ := X.base) I.ok.mod.kin kp (thn (ha.run pos pins s σ H _ I h) fun us s1 q => ?_) he hpl
  obtain ⟨vs, H1, I1, r, q⟩ := q
  rw [List.append_nil] at q
  exact ⟨I1.kIn, runG F (hr.mono hk) hg b hx I1 r q⟩
end
end L3
namespace L3
open PySem PySem.Spec PyProof.Rows L2 LamX
/-- what is tracked at the law's entry: the script, locked, where it is no object of the module's own; the tables -/
def H0 (K : PySem.W.Frag) (a : Addr) (o : Obj) (xs : List V) (ts : List Addr) : Hp := fun b =>
  if b ∈ ts then some (.tbl #[]) else if b = a ∧ (K.lookup a).isNone = true then some (.frz o (.lst xs)) else none
theorem lawG {P : Program} {w : World} {K : PySem.W.Frag} {mg mb : Str → Option Value} {CX : CXT} {k : Nat} {fa a : Addr} {cs : List (Addr × Addr)} {fd : FuncData} {x : Str} {sp : Sp} {s : Shared} {vs : List Value} {ns : List Int}
    (kin : K.In s.heap) (glo : s.heap.Ns mainGlobals mg) (blt : s.heap.Ns builtinsNs mb) (bls : ∀ y : Str, y ≠ "__name__" → mb y = bootBuiltins y) (lims : s.heap.NoLimit) (gen : s.gens = #[])
    (tabs : ∀ p ∈ cs, s.heap.get? p.2 = some { cls := .none, data := .fields #[] }) (tabK : ∀ p ∈ cs, K.lookup p.2 = none) (codes : ∀ p ∈ cs, PySem.W.CodeHd s.heap p.1 p.2)
    (bmod : ∃ (bm : Addr) (ob : Obj), mg "__builtins__" = some (.ref bm) ∧ bm ≠ builtinsNs ∧ s.heap.get? bm = some ob ∧ ob.cls = .type "module" ∧ ob.dict = some builtinsNs ∧ ob.data = .plain)
    (scr : s.heap.get? a = some { cls := .type "list", data := .seq vs.toArray }) (hInts : IntsAre vs ns) (few : ns.length ≤ sizeLine) (room : Room k callerA)
    (F : ∀ base : Heap, K.In base → base.Ns mainGlobals mg → (∀ p ∈ cs, TabB base mg p.1 p.2) → FnG P w K mg base CX k fa fd [x] sp)
    (bind : ∀ (s : Shared) (u : Value), BindsTo s fd ⟨[u], []⟩ [(x, u)])
    (says : ∀ H : Hp, (∀ p ∈ cs, H p.2 = some (.tbl #[])) → SqL K H a (ns.map V.int) → sp [.ref a] H (fun v _ => v = .bl true) fun _ _ _ => False)
    (none' : ∀ H e s', CX [] H s (fun _ _ _ => False) e s' → False) :
    codeAny (model P w) callerA (.call (.ref fa) ⟨[.ref a], []⟩) (fun r s' => r = .ok (.ret (.bool true)) ∧ OldK s.heap s'.heap ∧ s'.os = s.os ∧ AllBare s'.gens) s := by
  have rv := vals_ints hInts
  have lv := hInts.length
  generalize hts : cs.map (·.2) = ts
  have mem : ∀ p ∈ cs, p.2 ∈ ts := fun p hp => by rw [← hts]; exact List.mem_map.mpr ⟨p, hp, rfl⟩
  have isT : ∀ b ∈ ts, s.heap.get? b = some { cls := .none, data := .fields #[] } ∧ K.lookup b = none := fun b hb => by
    rw [← hts] at hb
    obtain ⟨p, hp, rfl⟩ := List.mem_map.mp hb
    exact ⟨tabs p hp, tabK p hp⟩
  have aT : a ∉ ts := fun z => by
    have q := (isT a z).1
    rw [scr] at q
    exact nomatch congrArg Obj.data (Option.some.inj q)
  generalize hH : H0 K a { cls := .type "list", data := .seq vs.toArray } (ns.map V.int) ts = H
  have atT : ∀ b ∈ ts, H b = some (.tbl #[]) := fun b hb => by rw [← hH]; exact if_pos hb
  have cases_ : ∀ b, H b = none ∨ b ∈ ts ∨ (b = a ∧ K.lookup a = none ∧ H b = some (.frz { cls := .type "list", data := .seq vs.toArray } (.lst (ns.map V.int)))) := fun b => by
    by_cases h1 : b ∈ ts
    · exact .inr (.inl h1)
    · by_cases h2 : b = a ∧ (K.lookup a).isNone = true
      · refine .inr (.inr ⟨h2.1, by simpa using h2.2, ?_⟩)
        rw [← hH]; unfold H0; rw [if_neg h1, if_pos h2]
      · left; rw [← hH]; unfold H0; rw [if_neg h1, if_neg h2]
  have hok : HOk P w H s.heap := fun b o e => by
    rcases cases_ b with q | q | ⟨rfl, _, q⟩
    · rw [q] at e; cases e
    · rw [atT b q] at e; cases e; exact (isT b q).1
    · rw [q] at e; cases e
      exact ⟨scr, by rw [List.length_map]; exact few, vs, _, rv, scr⟩
  have sq : SqL K H a (ns.map V.int) := by
    cases hk : K.lookup a with
    | none => exact .inl (.inr ⟨_, by rw [← hH]; unfold H0; rw [if_neg aT, if_pos ⟨rfl, by rw [hk]; rfl⟩]⟩)
    | some o =>
      have z := kin a o hk
      rw [scr] at z
      cases z
      exact .inr ⟨_, vs.toArray, _, hk, rfl, rfl, rfl, by rw [List.size_toArray, lv]; exact few, by simpa using rv⟩
  -- what isn't tracked lies in the ground
  have gr : ∀ {b : Addr} {o : Obj}, s.heap.get? b = some o → H b = none → (hidT s.heap H).get? b = some o := fun e n => hidT_get e n
  have free : ∀ {b : Addr} {o : Obj}, s.heap.get? b = some o → (∀ us n, o.data ≠ .seq us n) → o.data ≠ .fields #[] → H b = none := fun {b o} e h1 h2 => by
    rcases cases_ b with q | q | ⟨rfl, _, _⟩
    · exact q
    · rw [(isT b q).1] at e; cases e; exact (h2 rfl).elim
    · rw [scr] at e; cases e; exact (h1 _ _ rfl).elim
  have ns' : ∀ {b : Addr} {m : Str → Option Value}, s.heap.Ns b m → (hidT s.heap H).Ns b m := fun {b m} h => by
    obtain ⟨o, es, ep, e, d, r⟩ := h
    exact ⟨o, es, ep, gr e (free e (fun _ _ z => by rw [d] at z; cases z) fun z => by rw [d] at z; cases z), d, r⟩
  have kin' : K.In (hidT s.heap H) := fun b o e => gr (kin b o e) (by
    rcases cases_ b with q | q | ⟨rfl, q, _⟩
    · exact q
    · rw [(isT b q).2] at e; cases e
    · rw [q] at e; cases e)
  have lim' : (hidT s.heap H).NoLimit := by
    obtain ⟨mc, h1, h2⟩ := lims
    exact ⟨mc, ns' h1, h2⟩
  have tb : ∀ p ∈ cs, TabB (hidT s.heap H) mg p.1 p.2 := fun p hp => by
    refine ⟨?_, ?_, fun z => ?_⟩
    · obtain ⟨o, us, file, tf, flags, tg, inF, text, tt, e1, r1, r2, r3, r⟩ := codes p hp
      refine ⟨o, us, file, tf, flags, tg, inF, text, tt, gr e1 (free e1 (fun _ _ z => by rw [r2] at z; cases z) fun z => ?_), r1, r2, r3, r⟩
      rw [r2] at z
      cases z
      simp at r3
    · obtain ⟨bm, ob, b1, b2, b3, b4, b5, b6⟩ := bmod
      refine ⟨bm, ob, b1, b2, fun z => ?_, fun z => ?_, gr b3 (free b3 (fun _ _ z => by rw [b6] at z; cases z) fun z => by rw [b6] at z; cases z), b4, b5, b6⟩
      · obtain ⟨o, es, ep, e, hd, _⟩ := glo
        rw [z, e] at b3; cases b3; rw [hd] at b6; cases b6
      · rw [z, tabs p hp] at b3; cases b3; cases b6
    · obtain ⟨o, es, ep, e, hd, _⟩ := glo
      rw [z, tabs p hp] at e; cases e; cases hd
  have e0 : Env0 P w K mg (hidT s.heap H) callerA [] s H :=
    ⟨rfl, ⟨kin', ns' glo, ⟨mb, ns' blt, bls⟩, lim'⟩, fun b o e => of_hidT e, Nat.le_of_eq (hidT_size _ _), trivial, fun b hb => absurd (show b ∈ ([] : List Addr) from hb) (by simp), hok, .of_eq gen⟩
  refine codeAny_mono ((F _ kin' (ns' glo) tb).run callerA [] s H ⟨[.ref a], []⟩ [.ref a] [.ref a] _ _ room rfl e0 (bind s (.ref a)) (.cons rfl .nil) (says H (fun p hp => atT _ (mem p hp)) sq)) fun r s' h => ?_
  match r, h with
  | .error e, h => exact (none' H e s' h).elim
  | .ok (.ret u), h =>
    obtain ⟨v, H', os, bare, un, hok', r', q⟩ := h
    have q' : v = .bl true := q
    subst q'
    obtain rfl : u = Value.bool true := r'
    have nofr : ∀ b : Addr, b ∉ frs [] := fun b z => absurd (show b ∈ ([] : List Addr) from z) (by simp)
    have kept : ∀ b o, b ∉ ts → s.heap.get? b = some o → s'.heap.get? b = some o := fun b o nb e => by
      rcases cases_ b with q | q | ⟨_, _, q⟩
      · exact un.keep b o e q (nofr b) (by simp)
      · exact absurd q nb
      · have e1 := (hok b _ q).1
        have e2 := (hok' b _ (un.frzs b _ _ q)).1
        rw [e] at e1; cases e1; exact e2
    have tgrow : ∀ p ∈ cs, ∃ more : Array Value, s'.heap.get? p.2 = some { cls := .none, data := .fields more } := fun p hp => by
      obtain ⟨more, z⟩ := un.tbls p.2 #[] (atT _ (mem p hp))
      exact ⟨_, hok' p.2 _ z⟩
    have back : ∀ b ∈ ts, ∃ p ∈ cs, p.2 = b := fun b hb => by
      rw [← hts] at hb
      obtain ⟨p, hp, e⟩ := List.mem_map.mp hb
      exact ⟨p, hp, e⟩
    refine ⟨rfl, ⟨fun b o e => ?_, fun b o e => ?_⟩, os, bare⟩
    · by_cases hb : b ∈ ts
      · obtain ⟨p, hp, rfl⟩ := back b hb
        obtain ⟨more, hm⟩ := tgrow p hp
        rw [tabs p hp] at e
        cases e
        refine .inr (.inl ⟨((codes p hp).tab (tabs p hp)).isCodeTable, rfl, #[], more, rfl, ?_⟩)
        rw [Array.empty_append]
        exact hm
      · exact .inl (kept b o hb e)
    · by_cases hb : b ∈ ts
      · obtain ⟨p, hp, rfl⟩ := back b hb
        obtain ⟨more, hm⟩ := tgrow p hp
        exact ⟨_, hm⟩
      · exact ⟨o, kept b o hb e⟩
/-- what a law's own text must bring -/
structure LawG (l : PySem.W.OpenLaw) (w : World) (K : PySem.W.Frag) (CX : CXT) (k n : Nat) (x : Str) (mg : Str → Option Value) (fa : Addr) (h : Heap) : Prop where
  ex : ∃ (fd : FuncData) (cs : List (Addr × Addr)) (sp : Sp), (∀ p ∈ cs, h.get? p.2 = some { cls := .none, data := .fields #[] }) ∧ (∀ p ∈ cs, K.lookup p.2 = none) ∧ (∀ p ∈ cs, PySem.W.CodeHd h p.1 p.2) ∧
    (∀ (s : Shared) (u : Value), BindsTo s fd ⟨[u], []⟩ [(x, u)]) ∧
    (∀ (H : Hp) (a : Addr) (ns : List Int), ns.length ≤ n → (∀ p ∈ cs, H p.2 = some (.tbl #[])) → SqL K H a (ns.map V.int) → sp [.ref a] H (fun v _ => v = .bl true) fun _ _ _ => False) ∧
    ∀ base : Heap, K.In base → base.Ns mainGlobals mg → (∀ p ∈ cs, TabB base mg p.1 p.2) → FnG l.prog w K mg base CX k fa fd [x] sp
theorem walkG {l : PySem.W.OpenLaw} {n k : Nat} {q : Program} {loose : List Str} {XP : (Str → Option Value) → Heap → Prop} {YP : World → Heap → Prop} {d : DefRec} {K : Params → PySem.W.Frag} {CX : World → CXT} {x : Str}
    (hn : l.most = some n) (hn2 : n ≤ sizeLine) (hdf : d.params.defaults = []) (hr : Room k callerA) (hY : ∀ (w : World) (h : Heap), YP w h → (K w.params).In h)
    (F : ∀ (w : World) (mg : Str → Option Value) (fa : Addr) (h : Heap), YP w h → (K w.params).In h → h.Ns mainGlobals mg → mg d.name = some (.ref fa) → LawG l w (K w.params) (CX w) k n x mg fa h)
    (hCX : ∀ (w : World) (H : Hp) (s : Shared) (e : Value) (s' : Shared), CX w [] H s (fun _ _ _ => False) e s' → False) :
    PySem.W.WalkO q loose XP YP l.row.toRowW d [] (fun f vs => PySem.call f vs) := by
  refine Att.attach_callB hn hdf fun w s₀ s₁ mg mb fa o pm cd doc a vs ns G Y ho hd hcd hmg hobj hints hlen _ hg => ?_
  have kx := hY w _ Y
  obtain ⟨fd, cs, sp, t1, t2, t3, hb, hs, hF⟩ := (F w mg fa _ Y kx G.T.g hmg).ex
  exact lawG kx G.T.g G.T.b G.T.builtins G.T.nolimit hg t1 t2 t3 G.T.bmain hobj hints (Nat.le_trans hlen hn2) hr hF hb (fun H hH hS => hs H a ns hlen hH hS) fun H e s' => hCX w H s₁ e s'
end L3
end
section
namespace L3
open PySem PySem.Spec PyProof.Rows L2
section
variable {X : Cx}
mutual
theorem dp_noDict {K : PySem.W.Frag} {H : Hp} : ∀ (d : PyData) (v : V), Dp K H v d → d.hasDict = false
  | .none, _, _ => rfl
  | .bool _, _, _ => rfl
  | .int _, _, _ => rfl
  | .str _, _, _ => rfl
  | .list ds, _, h => by
    cases h with
    | lst _ a => exact dp_noDictAll ds _ a
  | .tuple ds, _, h => by
    cases h with
    | tup _ a => exact dp_noDictAll ds _ a
  | .dict _, _, h => nomatch h
theorem dp_noDictAll {K : PySem.W.Frag} {H : Hp} : ∀ (ds : List PyData) (vs : List V), DpAll K H vs ds → PyData.hasDictAll ds = false
  | [], _, _ => rfl
  | d :: ds, _, h => by
    cases h with
    | cons a b =>
      unfold PyData.hasDictAll
      rw [dp_noDict d _ a, dp_noDictAll ds _ b]
      rfl
end
def rRepr (K : PySem.W.Frag) : List V → Hp → VK → Prop := fun xs H Q => ∃ x d, xs = [x] ∧ Dp K H x d ∧ d.showable = true ∧ d.depth ≤ 60 ∧ d.shown.length ≤ sizeLine ∧ Q (.str d.shown) H
theorem call_reprD (hg : X.A.guards = some []) (hu : X.A.units + 64 < cLine) : CallR X (.builtin "repr") (rRepr X.K) := by
  intro pins s σ H xs us Q I r h
  obtain ⟨x, d, rfl, hd, hs, hdp, hz, q⟩ := h
  obtain ⟨u, rfl, rx⟩ := vals1 r
  have nd := dp_noDict d x hd
  obtain ⟨as, rd⟩ := Dp.reads I d x u hd rx
  have fin : ∀ tk t, EP X pins σ Q (.str d.shown t) { s with toks := tk } := fun tk t => ⟨.str d.shown, H, I.tok tk, ⟨t, rfl⟩, q⟩
  cases hd with
  | non =>
    cases (show u = Value.none from rx)
    exact P.repr_of_none (fin _ _)
  | bl b =>
    cases (show u = Value.bool b from rx)
    refine P.repr_of_bool ?_
    cases b
    · exact fin _ _
    · exact fin _ _
  | int i =>
    obtain ⟨t, e⟩ := (show ∃ t, u = Value.int i t from rx)
    subst e
    exact P.repr_of_int (of_decide_eq_true hs) (fin _ _)
  | str z =>
    obtain ⟨t, e⟩ := (show ∃ t, u = Value.str z t from rx)
    subst e
    exact P.repr_of_str (fin _ _) hz
  | lst a b =>
    cases (show u = Value.ref _ from rx)
    refine repr_of_reads' rd hs (PyData.noDict_hsm nd) hg (by omega) (fun _ _ e => e) (fun h' t tk k => ?_) hz
    exact ⟨.str _, H, I.kept k, ⟨t, rfl⟩, q⟩
  | tup a b =>
    cases (show u = Value.ref _ from rx)
    refine repr_of_reads' rd hs (PyData.noDict_hsm nd) hg (by omega) (fun _ _ e => e) (fun h' t tk k => ?_) hz
    exact ⟨.str _, H, I.kept k, ⟨t, rfl⟩, q⟩
def repS (z : Str) (n : Nat) : Str := ⟨(List.replicate n z.cps).foldl (· ++ ·) #[]⟩
def rMulS : R2 := fun x y H Q => ∃ z n, x = .str z ∧ y = .int n ∧ 2 ≤ n ∧ n ≤ 100000 ∧ z.length = 1 ∧ Q (.str (repS z n.toNat)) H
theorem repS_len (z : Str) (n : Nat) : (repS z n).length = n * z.length := by
  have h : ∀ (l : List (Array Nat)) (a : Array Nat), (l.foldl (· ++ ·) a).size = a.size + (l.map (·.size)).sum := by
    intro l
    induction l with
    | nil => intro a; simp
    | cons b r ih => intro a; rw [List.foldl_cons, ih, Array.size_append, List.map_cons, List.sum_cons]; omega
  show ((List.replicate n z.cps).foldl (· ++ ·) #[]).size = _
  rw [h, List.map_replicate, List.sum_replicate_nat]
  simp [Str.length]
theorem op_mulS : OpR X (binaryOp .Mult) rMulS := by
  intro pins s σ H x y v u Q I rx ry h
  obtain ⟨z, n, rfl, rfl, h1, h2, h3, q⟩ := h
  obtain ⟨t, rfl⟩ := rx
  obtain ⟨t', rfl⟩ := ry
  have c1 : ¬ n < 1 := by omega
  have c2 : (n == 1 || z.length == 0) = false := by
    rw [h3, show (n == 1) = false from beq_eq_false_iff_ne.mpr (by omega)]
    rfl
  refine P.mul_str (by rw [decide_eq_false (by omega), decide_eq_false (by omega)]; rfl) (fun _ _ => ?_) (fun _ _ => ?_) ?_
  · rw [h3]
    have : (1 : Int) ≤ (2 ^ 63 - 1) / n := Int.le_ediv_of_mul_le (by omega) (by omega)
    omega
  · unfold PySem.Builtin.Str.tooLong
    rw [h3]
    exact decide_eq_false (by rw [sizeLine_eq]; omega)
  · rw [if_neg c1, c2, if_neg (by decide)]
    refine ⟨?_, ⟨.str (repS z n.toNat), H, I.tok _, ⟨_, rfl⟩, q⟩⟩
    show (repS z n.toNat).length ≤ sizeLine
    rw [repS_len, h3, sizeLine_eq]
    omega
theorem vals_of_get : ∀ {xs : List V} {us : List Value}, xs.length = us.length → (∀ (i : Nat) x u, xs[i]? = some x → us[i]? = some u → RelV x u) → Vals xs us
  | [], [], _, _ => .nil
  | x :: xs, u :: us, hl, h => .cons (h 0 x u rfl rfl) (vals_of_get (by simpa using hl) fun i y v a b => h (i + 1) y v (by simpa using a) (by simpa using b))
  | [], _ :: _, hl, _ => by simp at hl
  | _ :: _, [], hl, _ => by simp at hl
def chars (z : Str) : List V := z.cps.toList.map fun c => V.str ⟨#[c]⟩
def rListS : List V → Hp → VK → Prop := fun xs H Q => ∃ z, xs = [.str z] ∧ z.length ≤ sizeLine ∧ ∀ l, H l = none → ap Q (.ref l) (upd H l (.lst (chars z)))
theorem call_listS (hc : X.calm = true) : CallR X (.type "list") rListS := by
  intro pins s σ H xs us Q I r h
  obtain ⟨z, rfl, hz, q⟩ := h
  obtain ⟨u, rfl, rx⟩ := vals1 r
  obtain ⟨t, rfl⟩ := rx
  refine call_list_str (I.ok.hd hc) z t (fun h' tk acc c k e it => ?_) hz
  have rl : Vals (chars z) acc.toList := by
    refine vals_of_get ?_ fun i x u hx hu => ?_
    · unfold chars
      rw [List.length_map, Array.length_toList, Array.length_toList, it.1]
    · obtain ⟨c, t, e1, rfl⟩ := it.2 i u (by simpa using hu)
      have e2 : z.cps.toList[i]? = some c := by simpa using e1
      unfold chars at hx
      rw [List.getElem?_map, e2] at hx
      cases hx
      exact ⟨t, rfl⟩
  refine ⟨.ref s.heap.objs.size, _, I.laid (t' := tk) k (Nat.le_refl _) (o := .lst (chars z)) ⟨by unfold chars; rw [List.length_map]; exact hz, acc.toList, c, rl, by simpa using e⟩, rfl, q _ (I.hok.fresh (Nat.le_refl _))⟩
end
end L3
namespace L3
open PySem PySem.Calls PySem.NumText PyProof.Rows PySem.W PySem.W.KIN
def DigitsFree (h : Heap) : Prop := ∃ mc, h.Ns cStatics mc ∧ mc "sys.int_max_str_digits" = none
theorem wp_digits {M : Model} {A : Around} {E : Value → Shared → Prop} {s : Shared} {Q : Nat → Shared → Prop} (hm : DigitsFree s.heap) (h : Q 4300 s) : wpAny M A PySem.Builtin.intMaxStrDigits Q E s := by
  obtain ⟨mc, h1, h2⟩ := hm
  unfold PySem.Builtin.intMaxStrDigits
  refine wpAny_bind (wpAny_nsGet h1 ?_)
  rw [h2]
  exact wpAny_pure h
theorem wp_textL {M : Model} {A : Around} {E : Value → Shared → Prop} {s : Shared} {Q : Value → Shared → Prop} {v : Value} {text : List Nat} {n : Int} (hm : DigitsFree s.heap)
    (hs : ¬ (text.takeWhile (· != 0)).length ≤ 640) (hr : (int_private% "readNumeral") 4300 10 (text.takeWhile (· != 0)) = (int_private% "Numeral.value") n)
    (ha : ((text.takeWhile (· != 0)).length == text.length) = true) (h : Q (.int n s.toks) { s with toks := s.toks + 1 }) :
    wpAny M A ((int_private% "intFromText") v text 10) Q E s := by
  obtain ⟨hp, g, d, tk, os⟩ := s
  repeat (any_goals (first
    | assumption
    | (with_reducible refine wpAny_ite_false (decide_eq_false hs) ?_)
    | (with_reducible refine wpAny_ite_true (decide_eq_true ha) ?_)
    | (with_reducible refine wp_digits hm ?_)
    | wp_step))
  all_goals (try rw [hr])
  all_goals (try dsimp only)
  repeat (any_goals (first
    | assumption
    | (with_reducible refine wpAny_ite_true (decide_eq_true ha) ?_)
    | wp_step))
structure HidL (p : Prop) : Prop where
  out : p
theorem meets_textL {x : PySem.Str} {u : Tok} {n : Int} (hl : ¬ (numSeenOf x).length ≤ 640) (hr : (int_private% "readNumeral") 4300 10 (numSeenOf x) = (int_private% "Numeral.value") n)
    (ha : ((numSeenOf x).length == (numTextOf x).length) = true) : Meets (Builtin.«int.__new__» ⟨[.type "int", .str x u], []⟩) (fun _ R s => DigitsFree s.heap ∧ R (.ok (.ret (.int n s.toks))) { s with toks := s.toks + 1 }) := by
  intro prog w A R s h
  obtain ⟨hm, h⟩ := h
  obtain ⟨hp, g, d, tk, os⟩ := s
  have g1 := F.conv_sub_int
  have g2 := F.madeHere_int
  have g3 := str_int
  have g4 := str_idx
  have g5 := str_trunc
  have g6 : typeOf (.str x u) = pure (.type "str") := rfl
  have hk := HidL.mk (And.intro hl (And.intro hr ha))
  clear hl hr ha
  repeat (any_goals (first
    | assumption
    | ((with_reducible show wpAny _ _ ((int_private% "intFromText") _ _ _) _ _ _); refine wp_textL hm hk.out.1 hk.out.2.1 hk.out.2.2 ?_)
    | wp_step))
theorem call_textL {prog : Program} {w : World} {A : Around} {E : Value → Shared → Prop} {s : Shared} {Q : Value → Shared → Prop} {x : PySem.Str} {u : Tok} {n : Int} (hm : DigitsFree s.heap) (hl : ¬ (numSeenOf x).length ≤ 640) (hr : (int_private% "readNumeral") 4300 10 (numSeenOf x) = (int_private% "Numeral.value") n)
    (ha : ((numSeenOf x).length == (numTextOf x).length) = true) (h : Q (.int n s.toks) { s with toks := s.toks + 1 }) :
    wpAny (model prog w) A (call (.type "int") [.str x u]) Q E s := call_int_1 (meets_textL hl hr ha) ⟨hm, rfl, h⟩
end L3
namespace L3
open PySem PySem.Spec PyProof.Rows L2
namespace FnK
theorem slot : Slot "function" "__getattribute__" "object.__getattribute__" := .of (owner := "object") (n := "__getattribute__")
  (by rw [typeLookup_type, builtinLookup_eq_fast]; kernel_rfl) (by decide +kernel) (by decide +kernel) (by decide +kernel) (by first | exact .inl (by decide +kernel) | exact .inr (by decide +kernel)) (by rw [isSubtype_type]; kernel_rfl)
theorem look : typeLookup (.type "function") "__class__" = pure (some (.builtin "object.__class__")) := by
  rw [typeLookup_type, builtinLookup_eq_fast]; kernel_rfl
theorem below : isSubtype (.type "function") (.type (".".intercalate ("object.__class__".cutAt '.').dropLast)) = pure true := by
  rw [F.owner_object_class, isSubtype_type]; kernel_rfl
section
variable {prog : Program} {w : World} {A : Around} {E : Value → Shared → Prop} {hp : Heap} {gs : Array GenState} {dr : Drawn} {tk : Nat} {os : OsState} {f : Addr} {ob : Obj}
theorem got {R : Result → Shared → Prop} (e : hp.get? f = some ob) (c : ob.cls = .type "function") (k : R (.ok (.ret (.type "function"))) ⟨hp, gs, dr, tk, os⟩) :
    codeAny (model prog w) A (.call (.builtin "getset_descriptor.__get__") ⟨[.builtin "object.__class__", .ref f, .type "function"], []⟩) R ⟨hp, gs, dr, tk, os⟩ := by
  have y1 : (⟨hp, gs, dr, tk, os⟩ : Shared).TypeIs (.ref f) "function" := ⟨_, e, c⟩
  have y2 : (⟨hp, gs, dr, tk, os⟩ : Shared).TypeIs (.builtin "object.__class__") "getset_descriptor" := F.typeOf_object_class
  have y3 := below
  refine codeAny_call_builtin F.slot_gs_get.plain F.entry_gs_get (F.slot_gs_get.check _ _ _ _ _ _ _ _ y2 (F.args_gs_get _ _ _) ?_)
  repeat (any_goals (first | assumption | wp_step))
  refine ⟨Code.quiet_builtin _ (by decide +kernel), codeAny_builtin F.entry_object_class ?_⟩
  repeat (any_goals (first | assumption | wp_step))
theorem entry {t : Tok} {Q : Fin → Shared → Prop} (e : hp.get? f = some ob) (c : ob.cls = .type "function") (k : Q (.done (.ret (.type "function"))) ⟨hp, gs, dr, tk, os⟩) :
    wpAny (model prog w) A (Builtin.«object.__getattribute__» ⟨[.ref f, .str "__class__" t], []⟩) Q E ⟨hp, gs, dr, tk, os⟩ := by
  have y1 : (⟨hp, gs, dr, tk, os⟩ : Shared).TypeIs (.ref f) "function" := ⟨_, e, c⟩
  have y2 : (⟨hp, gs, dr, tk, os⟩ : Shared).TypeIs (.builtin "object.__class__") "getset_descriptor" := F.typeOf_object_class
  have y3 := look
  have y4 := F.typeOf_object_class
  have y5 := F.slot_gs_get.lookup
  have y6 := F.slot_gs_set.lookup
  repeat (any_goals (first | assumption | wp_step))
  refine got e c ?_
  repeat (any_goals (first | assumption | wp_step))
theorem by_ {t : Tok} {Q : Value → Shared → Prop} (e : hp.get? f = some ob) (c : ob.cls = .type "function") (k : Q (.type "function") ⟨hp, gs, dr, tk, os⟩) :
    wpAny (model prog w) A (getAttrBy (.ref f) (.str "__class__" t) false) Q E ⟨hp, gs, dr, tk, os⟩ := by
  have y1 : (⟨hp, gs, dr, tk, os⟩ : Shared).TypeIs (.ref f) "function" := ⟨_, e, c⟩
  have y2 := slot.lookup
  have y3 := slot.bind (.ref f)
  repeat (any_goals (first | assumption | wp_step))
  refine codeAny_call_builtin slot.plain F.entry_object_getattribute (slot.check _ _ _ _ _ _ _ _ y1 (F.args_object_getattribute_2 _ _) (entry e c ?_))
  repeat (any_goals (first | assumption | wp_step))
theorem attr {Q : Option Value → Shared → Prop} (e : hp.get? f = some ob) (c : ob.cls = .type "function") (k : Q (some (.type "function")) ⟨hp, gs, dr, tk + 1, os⟩) :
    wpAny (model prog w) A (getAttr? (.ref f) "__class__") Q E ⟨hp, gs, dr, tk, os⟩ := by
  unfold getAttr? getAttrBy?
  repeat (any_goals (first | assumption | with_reducible apply by_ e c | wp_step))
end
theorem kit {K : PySem.W.Frag} {f : Addr} : PySem.W.KitX K (.ref f) (.type "function") (PySem.W.KitAt f "function") :=
  PySem.W.kitx_of PySem.W.kitAt_ty (fun {_ _ _ _ _ s} p k => by
    obtain ⟨hp, gs, dr, tk, os⟩ := s
    obtain ⟨o, h1, h2⟩ := p
    exact attr h1 h2 k)
end FnK
/-- a function object -/
def FnV (f : Addr) : HO := .ext fun h => ∃ o, h.get? f = some o ∧ o.cls = .type "function"
/-- a value's type -/
inductive TyA (K : PySem.W.Frag) (H : Hp) : V → Value → Prop where
  | x {v : V} {t : Value} (h : TyX K H v t) : TyA K H v t
  | fn {f : Addr} (e : H f = some (FnV f)) : TyA K H (.ref f) (.type "function")
def rIsiA (K : PySem.W.Frag) : List V → Hp → VK → Prop := fun xs H Q => ∃ (x c : V) (t u : Value) (b : Bool), xs = [x, c] ∧ ClsV c u ∧ TyA K H x t ∧ PySem.W.kitOne K t u = some b ∧ Q (.bl b) H
theorem callIsi {X : Cx} : CallR X (.builtin "isinstance") (rIsiA X.K) := by
  intro pins s σ H xs us Q I r h
  obtain ⟨x, c, t, u, b, rfl, k, ty, e, q⟩ := h
  cases ty with
  | x ty => exact call_isi pins s σ H _ us Q I r ⟨x, c, t, u, b, rfl, k, ty, e, q⟩
  | @fn f ef =>
    obtain ⟨u1, u2, rfl, r1, r2⟩ := vals2 r
    have e2 := k.eq r2
    subst e2
    cases (show u1 = Value.ref f from r1)
    obtain ⟨⟨o, h1, h2⟩, _, _⟩ := (show ObjOk X.prog X.w H s.heap f (FnV f) from I.hok f _ ef)
    exact PySem.W.kia_one (FnK.kit (K := X.K) (f := f)) I.kIn ⟨o, h1, h2⟩ e (fun z => nomatch z) fun tk => ⟨.bl b, H, I.tok tk, rfl, q⟩
end L3
namespace L3
open PySem PySem.Spec PyProof.Rows L2 LamX
theorem Tabs.up {T : List (Addr × Str)} {H : Hp} {p : Addr} {o : HO} (t : Tabs T H) (h : H p = none) : Tabs T (upd H p o) := t.ext (ex_new h)
section
variable {X : Cx}
def rAddU : R2 := fun x y H Q => rI0 (fun i j => V.int (i + j)) x y H Q ∨ (∃ i j, x = .str i ∧ y = .str j ∧ i.length + j.length ≤ sizeLine ∧ Q (.str (i ++ j)) H) ∨ rCat x y H Q
theorem opAdd : OpR X (binaryOp .Add) rAddU := OpR.or op_add (OpR.or op_add_str op_cat)
def rMulU : R2 := fun x y H Q => rI IntMulOk (fun i j => V.int (i * j)) x y H Q ∨ rMulS x y H Q ∨ rRep x y H Q
theorem opMul : OpR X (binaryOp .Mult) rMulU := OpR.or (opI fun _ _ _ _ _ _ _ hc q => mul_int q hc) (OpR.or op_mulS op_rep)
theorem opEq (hu : X.A.units + 64 < cLine) : OpR X (compareOp .Eq) (rEqU X.K) := OpR.or op_eq (op_eqD hu)
theorem opNe (hu : X.A.units + 64 < cLine) : OpR X (compareOp .NotEq) (rNeU X.K) := OpR.or op_ne (op_neD hu)
def rIsU : R2 := fun x y H Q => (y = .non ∧ Q (.bl (decide (x = .non))) H) ∨ rIsB x y H Q
theorem opIs : OpR X (compareOp .Is) rIsU := OpR.or op_isN op_isBl
def rIsNotU : R2 := fun x y H Q => (y = .non ∧ Q (.bl (!decide (x = .non))) H) ∨ rNotB x y H Q
def rInU (K : PySem.W.Frag) : R2 := fun x y H Q => rInS x y H Q ∨ rIn K false x y H Q
theorem opIn : OpR X (compareOp .In) (rInU X.K) := OpR.or op_inS op_in_seq
def rNotInU (K : PySem.W.Frag) : R2 := fun x y H Q => rNotInS x y H Q ∨ rIn K true x y H Q
theorem IxR.or {r r' : R2} (h : IxR X r) (h' : IxR X r') : IxR X (fun x y H Q => r x y H Q ∨ r' x y H Q) := by
  intro value slice pins s σ H x y v u Q I rx ry q hs
  rcases q with q | q
  · exact h value slice pins s σ H x y v u Q I rx ry q hs
  · exact h' value slice pins s σ H x y v u Q I rx ry q hs
def rIxU (K : PySem.W.Frag) : R2 := fun x y H Q => rIxL K x y H Q ∨ rIxT K x y H Q ∨ rIxS x y H Q
theorem ixU : IxR X (rIxU X.K) := IxR.or ix_list (IxR.or ix_tup ix_str)
def rSlU (K : PySem.W.Frag) : V → Option Int → Option Int → Hp → VK → Prop := fun x lo hi H Q => rSlL K x lo hi H Q ∨ rSlS x lo hi H Q
theorem slU : SlR X (rSlU X.K) := SlR.or sl_list sl_str
theorem CallR.or {f : Value} {r r' : List V → Hp → VK → Prop} (h : CallR X f r) (h' : CallR X f r') : CallR X f (fun xs H Q => r xs H Q ∨ r' xs H Q) := by
  intro pins s σ H xs us Q I rs q
  rcases q with q | q
  · exact h pins s σ H xs us Q I rs q
  · exact h' pins s σ H xs us Q I rs q
/-- int(x): an int, a bool, a text -/
def rIntT : List V → Hp → VK → Prop := fun xs H Q => ∃ a n, xs = [.str a] ∧ PySem.intText? a = some n ∧ a.length ≤ 640 ∧ Q (.int n) H
def rIntL (K : PySem.W.Frag) : List V → Hp → VK → Prop := fun xs H Q => ∃ a n, xs = [.str a] ∧ PySem.intText? a = some n ∧ PySem.W.nsIn K cStatics "sys.int_max_str_digits" = some none ∧ ¬ (numSeenOf a).length ≤ 640 ∧ a.length ≤ sizeLine ∧ Q (.int n) H
theorem ns_none {K : PySem.W.Frag} {h : Heap} {a : Addr} {m : Str → Option Value} {x : Str} (kin : K.In h) (g : h.Ns a m) (e : PySem.W.nsIn K a x = some none) : m x = none := by
  obtain ⟨o, es, ep, ho, hd, _, hf⟩ := g
  cases hk : K.lookup a with
  | none => unfold PySem.W.nsIn at e; rw [hk] at e; cases e
  | some o' =>
    have z := kin _ _ hk
    rw [ho] at z
    cases z
    obtain ⟨c, d, dt, sl⟩ := o
    cases hd
    unfold PySem.W.nsIn at e
    rw [hk] at e
    cases he : es.toList.find? (·.key.isStr x) with
    | some y =>
      exfalso
      revert e
      show (match es.toList.find? (·.key.isStr x) with | some e => some (some e.val) | none => if es.toList.any (·.refKey) then none else some none) = some none → False
      rw [he]
      intro e; cases e
    | none =>
      rw [← hf]
      unfold nsFind findBy
      rw [← Array.find?_toList, he]
      rfl
theorem digits_free {K : PySem.W.Frag} {h : Heap} (kin : K.In h) (hl : h.NoLimit) (e : PySem.W.nsIn K cStatics "sys.int_max_str_digits" = some none) : DigitsFree h := by
  obtain ⟨mc, hn, _⟩ := hl
  refine ⟨mc, hn, ?_⟩
  exact ns_none kin hn e
def rIntU (K : PySem.W.Frag) : List V → Hp → VK → Prop := fun xs H Q => rInt1 xs H Q ∨ rIntT xs H Q ∨ rIntL K xs H Q
theorem callIntL : CallR X (.type "int") (rIntL X.K) := by
  intro pins s σ H xs us Q I rs h
  obtain ⟨a, n, rfl, hn, hk, hl, hz, q⟩ := h
  obtain ⟨u, rfl, rx⟩ := vals1 rs
  obtain ⟨t, rfl⟩ := rx
  rcases read4300 a hz with ⟨m, e1, e2, e3⟩ | ⟨e1, _⟩
  · rw [hn] at e1
    cases e1
    exact call_textL (digits_free I.kIn I.nolimit hk) hl e3 e2 ⟨.int n, H, I.tok _, ⟨_, rfl⟩, q⟩
  · rw [hn] at e1; cases e1
theorem callInt : CallR X (.type "int") (rIntU X.K) := CallR.or call_int1 (CallR.or call_int_str callIntL)
def rListU (K : PySem.W.Frag) : List V → Hp → VK → Prop := fun xs H Q => (∃ p ys, xs = [.ref p] ∧ (SqL K H p ys ∨ SqT K H p ys) ∧ ∀ l, H l = none → Q (.ref l) (upd H l (.lst ys))) ∨ rListS xs H Q
theorem callList (hc : X.calm = true) : CallR X (.type "list") (rListU X.K) := CallR.or call_list_of (call_listS hc)
end
end L3
end
section
namespace KX
open PySem PySem.Spec PyProof.Rows L2 LamX L3
section
variable {X : Cx} {K : PySem.W.Frag} (hK : X.K = K := by rfl)
include hK
theorem opIn : OpR X (compareOp .In) (rInU K) := by subst hK; exact L3.opIn
theorem ixU : IxR X (rIxU K) := by subst hK; exact L3.ixU
theorem slU : SlR X (rSlU K) := by subst hK; exact L3.slU
theorem callInt : CallR X (.type "int") (rIntU K) := by subst hK; exact L3.callInt
theorem callIsi : CallR X (.builtin "isinstance") (rIsiA K) := by subst hK; exact L3.callIsi
theorem callLen : CallR X (.builtin "len") (rLen1 K) := by subst hK; exact call_len
theorem callList (hc : X.calm = true) : CallR X (.type "list") (rListU K) := by subst hK; exact L3.callList hc
theorem callRepr (hg : X.A.guards = some []) (hu : X.A.units + 64 < cLine) : CallR X (.builtin "repr") (rRepr K) := by subst hK; exact call_reprD hg hu
theorem eqU (hu : X.A.units + 64 < cLine) : OpR X (compareOp .Eq) (rEqU K) := by subst hK; exact opEq hu
theorem neU (hu : X.A.units + 64 < cLine) : OpR X (compareOp .NotEq) (rNeU K) := by subst hK; exact opNe hu
theorem fld {e : Expr} {f : Str} {pos : Pos} {ta : TE} (ha : PE X e ta) (hb : attributeBase e f X.env (eval e X.env) = eval e X.env) : PE X (.Attribute e f pos) (tFld K ta f) := by subst hK; exact pe_fld ha hb
end
end KX
namespace L3
open PySem PySem.Spec PyProof.Rows L2 LamX
section
variable {σ : L2.St} {H : Hp} {D : Ends} {Q : VK} {v x y : V} {K : PySem.W.Frag} {te ta tb : TE}
theorem iteNF {A B : Prop} (h : A) : if (!false) = true then A else B := iteT h
theorem iteNT {A B : Prop} (h : B) : if (!true) = true then A else B := iteF h
theorem s_pair {i j : Nat} {tt : TA} (h : tt σ H fun vs H1 => ∃ v w, vs = [v, w] ∧ D.nx ((σ.set i (some v)).set j (some w)) H1) : tPar i j tt D σ H := h
theorem s_pair2 {R : V → V → Prop} (h : R x y) : ∃ v w, [x, y] = [v, w] ∧ R v w := ⟨x, y, rfl, h⟩
theorem s_fld {tv : TE} {f : Str} (h : tv σ H fun y H1 => ta σ H1 fun x H2 => ∃ a C dx fs, x = .ref a ∧ H2 a = some (.ins C dx fs) ∧ Cls K C ∧ NoAttr K C f ∧ fs.length < 1000 ∧ D.nx σ (upd H2 a (.ins C dx (putF f y fs)))) : sFld K ta tv f D σ H := h
theorem s_make {C : Addr} {sp : Sp} {dvs : List V} {E : XK} {tt : TA} (h : tt σ H fun vs H1 => ∀ p dx, H1 p = none → H1 dx = none → dx ≠ p → sp (.ref p :: (vs ++ dvs)) (upd (upd H1 dx (.own p)) p (.ins C dx [])) (fun v H2 => v = .non ∧ ap Q (.ref p) H2) E) : tMake C sp dvs E tt σ H Q := h
theorem s_dnew (h : ∀ p H2, H p = none → Ex H H2 → H2 p = some (.dK []) → Q (.ref p) H2) : tDNewK σ H Q := fun p hp => h p _ hp (ex_new hp) upd_same
theorem s_disp1 {tk tv : TE} {k : Key} {v' : V} (hk : ∀ H' (R : VK), R (kV k) H' → tk σ H' R) (hv : ∀ H' (R : VK), R v' H' → tv σ H' R) (h : ∀ p H2, H p = none → Ex H H2 → H2 p = some (.dK [(k, v')]) → Q (.ref p) H2) : tDisp [(tk, tv)] σ H Q := fun p hp => by
  refine hk _ _ (hv _ _ ?_)
  refine ⟨upd_same, [(k, v')], rfl, (by show 1 ≤ 15; decide), ?_⟩
  refine h p _ hp (fun b o e => ?_) upd_same
  rw [upd_ne (ne_of_none e hp), upd_ne (ne_of_none e hp)]; exact e
theorem s_pow {g : Int → Int → V} {i j : Int} (c : CPow i j) (h : Q (g i j) H) : rI CPow g (.int i) (.int j) H Q := ⟨i, j, rfl, rfl, c, h⟩
theorem s_m1 {r : V → List V → Hp → VK → Prop} (h : ta σ H fun x H1 => (∃ a, x = .str a) ∧ tb σ H1 fun y H2 => r x [y] H2 Q) : tM1 r ta tb σ H Q := h
theorem s_isstr {z : Str} {R : Prop} (h : R) : (∃ a, V.str z = .str a) ∧ R := ⟨⟨z, rfl⟩, h⟩
theorem s_addI {i j : Int} (h : Q (.int (i + j)) H) : rAddU (.int i) (.int j) H Q := .inl ⟨i, j, rfl, rfl, h⟩
theorem s_addL {l b : Addr} {xs zs : List V} (e : H l = some (.lst xs)) (e' : H b = some (.lst zs)) (z : xs.length + zs.length ≤ sizeLine) (h : ∀ p H2, H p = none → Ex H H2 → H2 p = some (.lst (xs ++ zs)) → Q (.ref p) H2) : rAddU (.ref l) (.ref b) H Q :=
  .inr (.inr ⟨l, b, xs, zs, rfl, rfl, e, e', z, fun p hp => h p _ hp (ex_new hp) upd_same⟩)
theorem s_mulI {i j : Int} (c : IntMulOk i j) (h : Q (.int (i * j)) H) : rMulU (.int i) (.int j) H Q := .inl ⟨i, j, rfl, rfl, c, h⟩
theorem s_isN (h : Q (.bl (decide (x = .non))) H) : rIsU x .non H Q := .inl ⟨rfl, h⟩
theorem s_isB {a b : Bool} (h : Q (.bl (decide (a = b))) H) : rIsU (.bl a) (.bl b) H Q := .inr ⟨a, b, rfl, rfl, h⟩
theorem s_nisN (h : Q (.bl (!decide (x = .non))) H) : rIsNotU x .non H Q := .inl ⟨rfl, h⟩
theorem s_nisB {a b : Bool} (h : Q (.bl (!decide (a = b))) H) : rIsNotU (.bl a) (.bl b) H Q := .inr ⟨a, b, rfl, rfl, h⟩
theorem s_inS {c : Nat} {z : Str} (h : Q (.bl (decide (c ∈ z.cps.toList))) H) : rInU K (.str ⟨#[c]⟩) (.str z) H Q := .inl ⟨c, z, rfl, rfl, h⟩
theorem s_ninS {c : Nat} {z : Str} (h : Q (.bl (!decide (c ∈ z.cps.toList))) H) : rNotInU K (.str ⟨#[c]⟩) (.str z) H Q := .inl ⟨c, z, rfl, rfl, h⟩
theorem s_inT {p : Addr} {xs : List V} (hs : SqT K H p xs) (hx : flatV x = true) (ha : xs.all flatV = true) (h : Q (.bl (inV x xs)) H) : rInU K x (.ref p) H Q := .inr ⟨p, xs, rfl, .inr hs, hx, ha, h⟩
theorem s_inL {p : Addr} {xs : List V} (hs : H p = some (.lst xs)) (hx : flatV x = true) (ha : xs.all flatV = true) (h : Q (.bl (inV x xs)) H) : rInU K x (.ref p) H Q := .inr ⟨p, xs, rfl, .inl (.inl (.inl hs)), hx, ha, h⟩
theorem s_iL {p : Addr} {xs : List V} {i : Int} (hp : H p = some (.lst xs)) (e : atI xs i = some v) (h : Q v H) : rIxU K (.ref p) (.int i) H Q := .inl ⟨p, xs, i, v, rfl, rfl, .inl (.inl hp), e, h⟩
theorem s_iT {p : Addr} {xs : List V} {i : Int} (hp : H p = some (.tup xs)) (e : atI xs i = some v) (h : Q v H) : rIxU K (.ref p) (.int i) H Q := .inr (.inl ⟨p, xs, i, v, rfl, rfl, .inl (.inl hp), e, h⟩)
theorem s_slice {r : V → Option Int → Option Int → Hp → VK → Prop} {tl th : TO} (h : te σ H fun x H1 => tl σ H1 fun l H2 => th σ H2 fun u H3 => r x l u H3 Q) : tSl r te tl th σ H Q := h
theorem s_part {R : Option Int → Hp → Prop} (h : te σ H fun x H1 => ∃ i, x = .int i ∧ R (some i) H1) : tPart te σ H R := h
theorem s_partI {R : Int → Prop} {i : Int} (h : R i) : ∃ j, V.int i = .int j ∧ R j := ⟨i, rfl, h⟩
theorem s_nopart {R : Option Int → Hp → Prop} (h : R none H) : tNoPart σ H R := h
theorem s_slL {p : Addr} {xs : List V} {lo hi : Option Int} (hs : SqL K H p xs) (h : ∀ q H2, H q = none → Ex H H2 → H2 q = some (.lst (cutV xs lo hi)) → Q (.ref q) H2) : rSlU K (.ref p) lo hi H Q :=
  .inl ⟨p, xs, rfl, hs, fun q hq => h q _ hq (ex_new hq) upd_same⟩
theorem s_cI {i : Int} (h : Q (.int i) H) : rIntU K [.int i] H Q := .inl (.inl ⟨i, rfl, h⟩)
theorem s_cB {b : Bool} (h : Q (.int (if b then 1 else 0)) H) : rIntU K [.bl b] H Q := .inl (.inr ⟨b, rfl, h⟩)
theorem s_listL {p : Addr} {xs : List V} (hs : SqL K H p xs) (h : ∀ q H2, H q = none → Ex H H2 → H2 q = some (.lst xs) → Q (.ref q) H2) : rListU K [.ref p] H Q :=
  .inl ⟨p, xs, rfl, .inl hs, fun q hq => h q _ hq (ex_new hq) upd_same⟩
theorem s_isiT {n : String} {t : Value} {b : Bool} (ty : TyA K H x t) (e : PySem.W.kitOne K t (.type n) = some b) (h : Q (.bl b) H) : rIsiA K [x, .ty n] H Q := ⟨x, .ty n, t, .type n, b, rfl, .ty n, ty, e, h⟩
theorem s_isiC {C : Addr} {t : Value} {b : Bool} (ty : TyA K H x t) (e : PySem.W.kitOne K t (.ref C) = some b) (h : Q (.bl b) H) : rIsiA K [x, .ref C] H Q := ⟨x, .ref C, t, .ref C, b, rfl, .own C, ty, e, h⟩
theorem s_repr {d : PyData} (hd : Dp K H x d) (h1 : d.showable = true) (h2 : d.depth ≤ 60) (h3 : d.shown.length ≤ sizeLine) (h : Q (.str d.shown) H) : rRepr K [x] H Q := ⟨x, d, rfl, hd, h1, h2, h3, h⟩
theorem s_chain {r r' : R2} {tc : TE} (h : ta σ H fun x H1 => tb σ H1 fun y H2 => r x y H2 fun z H3 => ∃ k, z = .bl k ∧ (if k = true then tc σ H3 fun w' H4 => r' y w' H4 Q else Q (.bl false) H3)) : tChain r r' ta tb tc σ H Q := h
theorem s_bm {T : String} {r : V → List V → Hp → VK → Prop} {t : TA} (h : te σ H fun x H1 => tyV K T x H1 ∧ t σ H1 fun xs H2 => r x xs H2 Q) : tBM K T r te t σ H Q := h
theorem s_tyL {p : Addr} {xs : List V} {R : Prop} (hp : H p = some (.lst xs)) (h : R) : tyV K "list" (.ref p) H ∧ R := ⟨.inl ⟨rfl, _, .inl (.inl hp)⟩, h⟩
theorem s_app {p : Addr} {xs : List V} (hp : H p = some (.lst xs)) (hz : xs.length < sizeLine) (h : Q .non (upd H p (.lst (xs ++ [y])))) : rAppend (.ref p) [y] H Q := ⟨p, xs, y, rfl, rfl, hp, hz, h⟩
def LC (J : It) (g : TG) (tt : TT) (te : TE) (vs : List Nat) (σ : L2.St) (H1 : Hp) (Q : VK) : Prop := ∀ D, H1 D = none → ∃ W : Nat → Nat → Hp → Prop, (∃ m, W 0 m (upd H1 D (.lst []))) ∧ ∀ i m H, W i m H →
  (J.stop i H ∧ Q (.ref D) H) ∨ (J.go i H ∧ ∃ Nx : Hp → Prop, (∀ H', Nx H' → ∃ m', m' < m ∧ W (i + 1) m' H') ∧ ∀ x H', J.yld i H x H' → g x (wipe σ vs) H' fun σ2 H2 => wipe σ2 vs = wipe σ vs ∧ tt σ2 H2 fun b H3 =>
    if b = true then te σ2 H3 fun y H4 => ∃ acc, H4 D = some (.lst acc) ∧ acc.length < sizeLine ∧ Nx (upd H4 D (.lst (acc ++ [y]))) else Nx H3)
theorem s_lcS {g : TG} {tt : TT} {vs : List Nat} (h : ta σ H fun v H1 => ∃ z, v = .str z ∧ LC (Its z) g tt te vs σ H1 Q) : tLc (iStr ta) g tt te vs σ H Q := h
theorem s_lcR {g : TG} {tt : TT} {vs : List Nat} {tr : TA} (h : tr σ H fun ws H1 => ∃ j : Int, ws = [.int j] ∧ -(2 ^ 62) ≤ j ∧ j < 2 ^ 62 ∧ LC (Itr 0 j.toNat) g tt te vs σ H1 Q) : tLc (iRng1 tr) g tt te vs σ H Q := h
theorem s_strE {R : Str → Prop} {z : Str} (h : R z) : ∃ y, V.str z = .str y ∧ R y := ⟨z, rfl, h⟩
end
end L3
end
section
local macro_rules | `(tactic| tm_at "s1") => `(tactic| first
  | with_reducible first
    | refine L3.s_seq ?_ | refine L3.s_asg ?_ | refine L3.s_op ?_ | refine L3.s_c ?_ | refine L3.s_cb ?_ | refine L3.s_cons ?_ | refine L3.s_nil ?_ | refine L3.s_test ?_ | refine L3.s_bl ?_
    | refine L3.s_I0 ?_ | refine L3.s_and ?_ | refine L3.s_or ?_ | refine L3.s_not ?_ | refine L3.s_if ?_ | refine L3.s_next ?_ | refine L3.s_ret ?_ | refine L3.s_retN ?_ | refine L3.s_asgS ?_ | refine L3.s_drop ?_
    | refine L3.s_un ?_ | refine L3.s_U ?_ | refine L3.s_int ?_ | refine L3.s_intB ?_ | refine L3.s_abs ?_ | refine L3.s_andV ?_ | refine L3.s_orV ?_ | refine L3.s_notV ?_ | refine L3.s_ifE ?_ | refine L3.s_call ?_ | refine L3.s_lst ?_ | refine L3.s_tup ?_ | refine L3.s_tB ?_
    | refine L3.s_addI ?_ | refine L3.s_inS ?_ | refine L3.s_ninS ?_ | refine L3.s_slice ?_ | refine L3.s_part ?_ | refine L3.s_partI ?_ | refine L3.s_nopart ?_ | refine L3.s_cI ?_ | refine L3.s_cB ?_ | refine L3.s_chain ?_ | refine L3.s_bm ?_ | refine L3.s_lcS ?_ | refine L3.s_lcR ?_ | refine L3.s_strE ?_
    | refine L2.iteT ?_ | refine L2.iteF ?_ | refine L3.iteNF ?_ | refine L3.iteNT ?_
    | refine L3.s_eqI ?_ | refine L3.s_neI ?_ | refine L3.s_eqS ?_ | refine L3.s_neS ?_
    | refine L3.s_pair ?_ | refine L3.s_pair2 ?_ | refine L3.s_fld ?_ | refine L3.s_make ?_ | refine L3.s_m1 ?_ | refine L3.s_isstr ?_
    | refine L3.s_isN ?_ | refine L3.s_isB ?_ | refine L3.s_nisN ?_ | refine L3.s_nisB ?_
  | ((with_reducible refine' L3.s_var ?e ?_); (case e => rfl))
  | ((with_reducible refine' L3.s_pow ?c ?_); (case c => exact ⟨by decide, by decide, by decide⟩)))
local macro_rules | `(tactic| tm_at "s") => `(tactic| repeat tm_at "s1")
namespace L3
open PySem PySem.Spec PyProof.Rows L2
theorem mulL {i j : Int} (h : -(2 ^ 64) < i ∧ i < 2 ^ 64) : IntMulOk i j := CMul.ok (.inl h)
def spDraw : Sp := fun vs H Q _ => ∃ a n many, vs = [.ref a, .int many] ∧ 0 < many ∧ many.natAbs < 2 ^ 8000 ∧ Pen H a n ∧ n < lim ∧
  ∀ (d : Int) (H' : Hp), 0 ≤ d → d < many → Pen H' a (n + 1) → (∀ b o, b ≠ a → H b = some o → H' b = some o) → Q (.int d) H'
abbrev rSub : R2 := rI0 fun i j => V.int (i - j)
abbrev rMod : R2 := rI (fun _ j => 0 < j) fun i j => V.int (i % j)
abbrev rDivW : R2 := rI CDivW fun i j => V.int (i / j)
abbrev rPow : R2 := rI CPow fun i j => V.int (i ^ j.toNat)
abbrev t1 (r : List V → Hp → VK → Prop) (te : TE) : TE := tCB r (tCons te tNil)
abbrev tI (i : Int) : TE := tC (.int i)
def tDraw (K : PySem.W.Frag) (c1 c2 c3 c4 c5 c6 c7 c8 c9 c10 : Int) : TS :=
  tSeq (tIfS (tTest (tOp (rI0 fun i j => V.bl (decide (j < i))) (tOp (rIxU K) (tVar 0) (tI 2)) (tI 0)))
    (tSeq (tAsg (tOp rMod (t1 (rIntU K) (tOp (rIxU K) (tVar 0) (tI 2))) (tVar 1)) (gName 2))
    (tSeq (tAsg (tOp rDivW (t1 (rIntU K) (tOp (rIxU K) (tVar 0) (tI 2))) (tVar 1)) (gSub (tVar 0) (tI 2) rSetL))
      (tRet (tVar 2)))) tNext)
  (tSeq (tAsg (tOp (rIxU K) (tVar 0) (tI 1)) (gName 3))
  (tSeq (tAsg (tOp rAddU (tVar 3) (tI 1)) (gSub (tVar 0) (tI 1) rSetL))
  (tSeq (tAsg (tOp rAddU (tOp rMulU (tI c1) (tVar 3)) (tI c2)) (gName 4))
  (Evl.tCut (tIfS (tTest (tOp (rNeU K) (tOp (rIxU K) (tVar 0) (tI 0)) (tLst tNil)))
    (tAsg (tOp (rIxU K) (tOp (rIxU K) (tVar 0) (tI 0)) (tOp rMod (t1 (rIntU K) (tVar 3)) (t1 (rLen1 K) (tOp (rIxU K) (tVar 0) (tI 0))))) (gName 4)) tNext)
  (tSeq (tIfS (tAnd (tTest (tOp (rI0 fun i j => V.bl (decide (i < j))) (tVar 3) (t1 (rLen1 K) (tOp (rIxU K) (tVar 0) (tI 0))))) (tTest (tOp (rI0 fun i j => V.bl (decide (j ≤ i))) (t1 rAbs1 (tVar 4)) (tOp rPow (tI 10) (tI 18)))))
    (tSeq (tAsg (tOp rAddU (tOp rMulU (tI 2) (tOp rSub (t1 rAbs1 (tVar 4)) (tOp rPow (tI 10) (tI 18)))) (t1 (rIntU K) (tOp (rI0 fun i j => V.bl (decide (i < j))) (tVar 4) (tI 0)))) (gName 5))
    (tSeq (tAsg (tOp rDivW (t1 (rIntU K) (tVar 5)) (tVar 1)) (gSub (tVar 0) (tI 2) rSetL))
      (tRet (tOp rMod (t1 (rIntU K) (tVar 5)) (tVar 1))))) tNext)
  (tSeq (tAsg (tOp rMod (t1 (rIntU K) (tOp rPow (tOp rAddU (tOp rAddU (tOp rMod (t1 (rIntU K) (tVar 4)) (tI c3)) (tOp rMulU (tI c4) (tVar 3))) (tI c5)) (tI 5))) (tI c6)) (gName 6))
  (tSeq (tAsg (tOp rMod (t1 (rIntU K) (tOp rPow (tOp rAddU (tOp rAddU (tOp rMulU (tVar 6) (tOp rAddU (tOp rMulU (tI 2) (tVar 3)) (tI c7))) (tOp rMulU (tOp rMulU (tI c8) (tVar 3)) (tVar 3))) (tI c9)) (tI 3))) (tI c10)) (gName 6))
    (tRet (tOp rMod (t1 (rIntU K) (tOp rDivW (tVar 6) (tI 32))) (tVar 1))))))))))
structure DrawC (c1 c2 c3 c4 c5 c6 c7 c8 c9 c10 : Int) : Prop where
  h1 : 0 ≤ c1 ∧ c1 < 1000000
  h3 : 0 < c3 ∧ c3 < 4294967296
  h4 : 0 ≤ c4 ∧ c4 < 1000000
  h5 : 0 ≤ c5 ∧ c5 < 1000000
  h6 : 0 < c6 ∧ c6 < 4294967296
  h7 : 0 ≤ c7 ∧ c7 < 1000000
  h8 : 0 ≤ c8 ∧ c8 < 1000000
  h9 : 0 ≤ c9 ∧ c9 < 1000000
  h10 : 0 < c10 ∧ c10 < 4294967296
theorem shInts (ns : List Int) : SeqAt.shaped (.list (ns.map PyData.int)) = true := by
  have h1 : ∀ l : List Int, PyData.canLayAll0 (l.map PyData.int) = true := by
    intro l
    induction l with
    | nil => rfl
    | cons x r ih => rw [List.map_cons]; unfold PyData.canLayAll0; rw [ih]; rfl
  have h2 : ∀ l : List Int, PyData.depthAll (l.map PyData.int) = 0 := by
    intro l
    induction l with
    | nil => rfl
    | cons x r ih => rw [List.map_cons]; unfold PyData.depthAll; rw [ih]; rfl
  unfold SeqAt.shaped PyData.canLay0 PyData.depth
  rw [h1, h2]; decide
theorem atI_int {α : Type} {xs : List α} {i : Int} (h0 : 0 ≤ i) (h : i < xs.length) : atI xs i = xs[i.toNat]? := by
  unfold atI ixN
  rw [if_pos h0, if_pos h]
  rfl
theorem natAbs_lt {x : Int} {k : Nat} (h0 : 0 ≤ x) (h : x < k) : x.natAbs < k := by omega
theorem rd_draw {K : PySem.W.Frag} {c1 c2 c3 c4 c5 c6 c7 c8 c9 c10 : Int} (C : DrawC c1 c2 c3 c4 c5 c6 c7 c8 c9 c10) {a c : Addr} {n : Nat} {many : Int} {ns : List Int} {H : Hp} {Q : VK} {Nn : L2.St → Hp → Prop} {B1 B2 : L2.St → Hp → Prop}
    (hm : 0 < many) (hm2 : many.natAbs < 2 ^ 8000) (ha : H a = some (PenO a c n)) (hc : H c = some (.lst (ns.map V.int))) (hn : n < lim) (hl : ns.length ≤ 63)
    (k : ∀ (d : Int) (H' : Hp), 0 ≤ d → d < many → (H' a = some (PenO a c (n + 1)) ∧ H' c = some (.lst (ns.map V.int))) → (∀ b o, b ≠ a → H b = some o → H' b = some o) → Q (.int d) H') :
    tPen a c n (n + 1) (tDraw K c1 c2 c3 c4 c5 c6 c7 c8 c9 c10) { nx := Nn, rt := Q, bk := B1, ct := B2 } [some (.ref a), some (.int many), none, none, none, none, none] H := by
  refine ⟨ha, fun spot rest h0 h1 => ?_⟩
  have nca : c ≠ a := fun z => by rw [z, ha] at hc; cases hc
  have fin : ∀ (d spot' rest' : Int) (H1 : Hp), 0 ≤ d → d < many → 0 ≤ spot' → spot' ≤ n + 1 → H1 a = some (.lst [.ref c, .int spot', .int rest']) → (∀ b o, b ≠ a → H b = some o → H1 b = some o) → penBack a c (n + 1) (Q (.int d)) H1 := by
    intro d sp re H1 d0 d1 s0 s1 e q
    exact ⟨sp, re, e, s0, by omega, k d _ d0 d1 ⟨upd_same, by rw [upd_ne nca]; exact q c _ nca hc⟩ (fun b o hb => by rw [upd_ne hb]; exact q b o hb)⟩
  unfold tDraw
  tm_at "s"
  refine s_iL upd_same rfl ?_
  tm_at "s"
  refine iteD (fun hpos => ?_) (fun _ => ?_)
  · tm_at "s"
    refine s_iL upd_same rfl ?_
    tm_at "s"
    refine s_I hm ?_
    tm_at "s"
    refine s_iL upd_same rfl ?_
    tm_at "s"
    refine s_I (wide_div hm hm2 (by decide) (by decide)) ?_
    tm_at "s"
    refine s_setL upd_same rfl ?_
    tm_at "s"
    exact fin _ spot _ _ (Int.emod_nonneg _ (by omega)) (Int.emod_lt_of_pos _ hm) h0 (by omega) upd_same (fun b o hb hh => by rw [upd_ne hb, upd_ne hb]; exact hh)
  · tm_at "s"
    refine s_iL upd_same rfl ?_
    tm_at "s"
    refine s_setL upd_same rfl ?_
    have hs : (spot : Int) ≤ 1000000 := by unfold lim at hn; omega
    tm_at "s"
    refine s_mulI (mulL ⟨by have := C.h1; omega, by have := C.h1; omega⟩) ?_
    tm_at "s"
    refine s_cut (M := fun σ' H' => ∃ cell : Int, σ' = [some (.ref a), some (.int many), none, some (.int spot), some (.int cell), none, none] ∧ H' a = some (.lst [.ref c, .int (spot + 1), .int rest]) ∧ ∀ b o, b ≠ a → H b = some o → H' b = some o) ?_ ?_
    · tm_at "s"
      refine s_iL upd_same rfl ?_
      tm_at "s"
      refine s_new (by decide) fun p H2 hp e2 h2 => ?_
      have a2 : H2 a = some (.lst [.ref c, .int (spot + 1), .int rest]) := e2 _ _ upd_same
      have k2 : ∀ b o, b ≠ a → H b = some o → H2 b = some o := fun b o hb hh => e2 _ _ (by rw [upd_ne hb, upd_ne hb]; exact hh)
      have c2 := k2 c _ nca hc
      clear hp e2
      refine s_neD' (.lst (.inl (.inl c2)) (dpInts ns)) (.lst (.inl (.inl h2)) .nil) (shInts ns) rfl ?_
      tm_at "s"
      refine iteB (fun hne => ?_) (fun _ => ?_)
      · tm_at "s"
        refine s_iL a2 rfl ?_
        tm_at "s"
        refine s_iL a2 rfl ?_
        tm_at "s"
        refine s_lenL c2 ?_
        rw [List.length_map]
        have hns : 0 < ns.length := by
          cases ns with
          | nil => exact absurd hne (by decide)
          | cons x r => exact Nat.succ_pos _
        refine s_I (by omega) ?_
        have hx : spot % (ns.length : Int) < ns.length := Int.emod_lt_of_pos _ (by omega)
        have hx0 : 0 ≤ spot % (ns.length : Int) := Int.emod_nonneg _ (by omega)
        have hxn : (spot % (ns.length : Int)).toNat < ns.length := by omega
        refine s_iL c2 (v := .int (ns[(spot % (ns.length : Int)).toNat]'hxn)) ?_ ?_
        · rw [atI_int hx0 (by rw [List.length_map]; exact hx), List.getElem?_map, List.getElem?_eq_getElem hxn]
          rfl
        · exact ⟨_, rfl, a2, k2⟩
      · tm_at "s"
        exact ⟨_, rfl, a2, k2⟩
    · rintro σ' H2 ⟨cell, rfl, a2, k2⟩
      have c2 := k2 c _ nca hc
      have main : (tSeq (tAsg (tOp rMod (t1 (rIntU K) (tOp rPow (tOp rAddU (tOp rAddU (tOp rMod (t1 (rIntU K) (tVar 4)) (tI c3)) (tOp rMulU (tI c4) (tVar 3))) (tI c5)) (tI 5))) (tI c6)) (gName 6))
          (tSeq (tAsg (tOp rMod (t1 (rIntU K) (tOp rPow (tOp rAddU (tOp rAddU (tOp rMulU (tVar 6) (tOp rAddU (tOp rMulU (tI 2) (tVar 3)) (tI c7))) (tOp rMulU (tOp rMulU (tI c8) (tVar 3)) (tVar 3))) (tI c9)) (tI 3))) (tI c10)) (gName 6))
            (tRet (tOp rMod (t1 (rIntU K) (tOp rDivW (tVar 6) (tI 32))) (tVar 1)))))
          { nx := fun σ' => penBack a c (n + 1) (Nn σ'), rt := fun v => penBack a c (n + 1) (Q v), bk := fun σ' => penBack a c (n + 1) (B1 σ'), ct := fun σ' => penBack a c (n + 1) (B2 σ') }
          [some (.ref a), some (.int many), none, some (.int spot), some (.int cell), none, none] H2 := by
        have hc3 := C.h3; have hc4 := C.h4; have hc5 := C.h5; have hc6 := C.h6; have hc7 := C.h7; have hc8 := C.h8; have hc9 := C.h9; have hc10 := C.h10
        tm_at "s"
        refine s_I hc3.1 ?_
        tm_at "s"
        refine s_mulI (mulL ⟨by omega, by omega⟩) ?_
        tm_at "s"
        have e1 : 0 ≤ cell % c3 := Int.emod_nonneg _ (by omega)
        have e2 : cell % c3 < c3 := Int.emod_lt_of_pos _ hc3.1
        have e3 : 0 ≤ c4 * spot := Int.mul_nonneg hc4.1 h0
        have e4 : c4 * spot ≤ 1000000 * 1000000 := Int.mul_le_mul (by omega) hs h0 (by decide)
        refine s_pow ⟨by decide, by decide, ?_⟩ ?_
        · exact natAbs_lt (by omega) (by show _ < ((2 ^ 64 : Nat) : Int); omega)
        tm_at "s"
        refine s_I hc6.1 ?_
        generalize hg : ((cell % c3 + c4 * spot + c5) ^ (Int.toNat 5)) % c6 = g
        have g0 : 0 ≤ g := by rw [← hg]; exact Int.emod_nonneg _ (by omega)
        have g1 : g < c6 := by rw [← hg]; exact Int.emod_lt_of_pos _ hc6.1
        tm_at "s"
        refine s_mulI (mulL (by decide)) ?_
        tm_at "s"
        refine s_mulI (mulL ⟨by omega, by omega⟩) ?_
        tm_at "s"
        refine s_mulI (mulL ⟨by omega, by omega⟩) ?_
        have f3 : 0 ≤ c8 * spot := Int.mul_nonneg hc8.1 h0
        have f4 : c8 * spot ≤ 1000000 * 1000000 := Int.mul_le_mul (by omega) hs h0 (by decide)
        tm_at "s"
        refine s_mulI (mulL ⟨by omega, by omega⟩) ?_
        have f5 : 0 ≤ c8 * spot * spot := Int.mul_nonneg f3 h0
        have f6 : c8 * spot * spot ≤ 1000000 * 1000000 * 1000000 := Int.mul_le_mul f4 hs h0 (by decide)
        have f7 : 0 ≤ g * (2 * spot + c7) := Int.mul_nonneg g0 (by omega)
        have f8 : g * (2 * spot + c7) ≤ 4294967296 * 3000000 := Int.mul_le_mul (by omega) (by omega) (by omega) (by decide)
        tm_at "s"
        refine s_pow ⟨by decide, by decide, ?_⟩ ?_
        · exact natAbs_lt (by omega) (by show _ < ((2 ^ 64 : Nat) : Int); omega)
        tm_at "s"
        refine s_I hc10.1 ?_
        tm_at "s"
        refine s_I (wide_div (b := 64) (by decide) (by decide) (by decide) (by decide)) ?_
        tm_at "s"
        refine s_I hm ?_
        exact fin _ (spot + 1) rest _ (Int.emod_nonneg _ (by omega)) (Int.emod_lt_of_pos _ hm) (by omega) (by omega) a2 k2
      tm_at "s"
      refine s_iL a2 rfl ?_
      tm_at "s"
      refine s_lenL c2 ?_
      tm_at "s"
      refine iteD (fun _ => ?_) (fun _ => ?_)
      · tm_at "s"
        refine iteD (fun hbig => ?_) (fun _ => ?_)
        · tm_at "s"
          refine s_mulI (mulL (by decide)) ?_
          tm_at "s"
          refine s_I (wide_div hm hm2 (by decide) (by decide)) ?_
          tm_at "s"
          refine s_setL a2 rfl ?_
          tm_at "s"
          refine s_I hm ?_
          exact fin _ (spot + 1) _ _ (Int.emod_nonneg _ (by omega)) (Int.emod_lt_of_pos _ hm) (by omega) (by omega) upd_same (fun b o hb hh => by rw [upd_ne hb]; exact k2 b o hb hh)
        · exact main
      · refine iteF ?_
        exact main
theorem rd_drawS {K : PySem.W.Frag} {c1 c2 c3 c4 c5 c6 c7 c8 c9 c10 : Int} (C : DrawC c1 c2 c3 c4 c5 c6 c7 c8 c9 c10) {a c : Addr} {n : Nat} {many : Int} {ns : List Int} {H : Hp} {Q : VK} {Nn : L2.St → Hp → Prop} {B1 B2 : L2.St → Hp → Prop}
    (hm : 0 < many) (hm2 : many.natAbs < 2 ^ 8000) (ha : H a = some (PenO a c n)) (hc : H c = some (ScO c ns)) (hn : n < lim) (hl : ns.length ≤ 63 ∧ c ≠ a)
    (k : ∀ (d : Int) (H' : Hp), 0 ≤ d → d < many → Pen H' a (n + 1) → (∀ b o, b ≠ a → H b = some o → H' b = some o) → Q (.int d) H') :
    tSc c ns (tPen a c n (n + 1) (tDraw K c1 c2 c3 c4 c5 c6 c7 c8 c9 c10)) { nx := Nn, rt := Q, bk := B1, ct := B2 } [some (.ref a), some (.int many), none, none, none, none, none] H := by
  refine ⟨hc, rd_draw C hm hm2 (by rw [upd_ne (Ne.symm hl.2)]; exact ha) upd_same hn hl.1 fun d H' d0 d1 ⟨p1, p2⟩ q => ?_⟩
  refine ⟨p2, k d _ d0 d1 ⟨c, ns, by rw [upd_ne (Ne.symm hl.2)]; exact p1, upd_same, hl⟩ fun b o hb ho => ?_⟩
  by_cases hbc : b = c
  · subst hbc
    rw [upd_same, ← hc]; exact ho
  · rw [upd_ne hbc]
    exact q b o hb (by rw [upd_ne hbc]; exact ho)
end L3
end
section
namespace L3
open PySem PySem.Spec PyProof.Rows L2 PySem.NumText
theorem str_ext {a b : Str} (h : a.cps.toList = b.cps.toList) : a = b := by
  cases a; cases b
  have := Array.ext' h
  cases this; rfl
theorem cut_take (z : Str) : (cutS z none (some 1)).cps.toList = z.cps.toList.take 1 := by
  unfold cutS
  have e0 : HT.sIx z.length 0 none = 0 := rfl
  have e1 : z.cps.toList.length = z.length := Array.length_toList
  rw [e0, List.drop_zero, Nat.sub_zero]
  show z.cps.toList.take (HT.sIx z.length z.length (some 1)) = _
  have : HT.sIx z.length z.length (some 1) = min 1 z.length := by
    unfold HT.sIx
    simp
    try omega
  rw [this]
  by_cases h : z.length = 0
  · rw [h]
    have : z.cps.toList = [] := List.length_eq_zero_iff.mp (e1.trans h)
    rw [this]; rfl
  · rw [show min 1 z.length = 1 by omega]
abbrev digT : Str := "0123456789"
def isDig (c : Nat) : Bool := decide (c ∈ digT.cps.toList)
theorem isDig_iff (c : Nat) : isDig c = true ↔ 48 ≤ c ∧ c ≤ 57 := by
  unfold isDig
  rw [decide_eq_true_eq]
  show c ∈ [48, 49, 50, 51, 52, 53, 54, 55, 56, 57] ↔ _
  simp only [List.mem_cons, List.not_mem_nil, or_false]
  omega
def figsOf (z : Str) : Str := if decide (cutS z none (some 1) = "-") = true then cutS z (some 1) none else z
theorem figs_pos {z : Str} (h : z.cps.toList.head? ≠ some 45) : figsOf z = z := by
  unfold figsOf
  rw [if_neg]
  intro q
  have q := of_decide_eq_true q
  have q2 : (cutS z none (some 1)).cps.toList = [45] := by rw [q]; rfl
  rw [cut_take] at q2
  cases hz : z.cps.toList with
  | nil => rw [hz] at q2; cases q2
  | cons c r =>
    rw [hz] at q2 h
    have : c = 45 := by simpa using q2
    exact h (by rw [this]; rfl)
def figB (z : Str) : Bool := ((decide (1 ≤ ((figsOf z).length : Int)) && decide (((figsOf z).length : Int) ≤ 4000)) && (figsOf z).cps.toList.all isDig) && (decide (z = "0") || !decide ((figsOf z).cps.toList.head? = some 48))
theorem digits_all {l : List Nat} (h : l.all isDig = true) : AllDigits l := fun c hc => (isDig_iff c).mp (List.all_eq_true.mp h c hc)
/-- the number that a text of figures writes -/
def valOf (z : Str) : Int := if z.cps.toList.head? = some 45 then -((digitsVal (z.cps.toList.drop 1) : Nat) : Int) else ((digitsVal z.cps.toList : Nat) : Int)
theorem len_codes (z : Str) : z.cps.toList.length = z.length := Array.length_toList
def strOf (n : Int) : Str := Str.ofString (toString n)
theorem strOf_nat (n : Nat) : (strOf (n : Int)).cps.toList = TL.numL n := TL.tl_num n
theorem ofString_codes (s : String) : (Str.ofString s).cps.toList = s.toList.map Char.toNat := by
  rw [Str.ofString_eq_toList]
theorem strOf_neg {m : Nat} (h : 0 < m) : (strOf (-(m : Int))).cps.toList = 45 :: TL.numL m := by
  obtain ⟨k, rfl⟩ : ∃ k, m = k + 1 := ⟨m - 1, by omega⟩
  have e : toString (-((k + 1 : Nat) : Int)) = "-" ++ toString (((k + 1 : Nat) : Int)) := rfl
  unfold strOf
  rw [e, ofString_codes, String.toList_append, List.map_append, ← ofString_codes, ← ofString_codes]
  show [45] ++ _ = _
  have := strOf_nat (k + 1)
  unfold strOf at this
  rw [this]
  rfl
theorem val_snoc (ds : List Nat) (c : Nat) : digitsVal (ds ++ [c]) = digitsVal ds * 10 + (c - 48) := by
  unfold digitsVal
  rw [List.foldl_append]
  rfl
theorem canon : ∀ (n : Nat) (ds : List Nat), ds.length = n → AllDigits ds → ds ≠ [] → ds.head? ≠ some 48 → TL.numL (digitsVal ds) = ds ∧ 0 < digitsVal ds := by
  intro n
  induction n with
  | zero => intro ds h _ hne; exact absurd (List.length_eq_zero_iff.mp h) hne
  | succ n ih =>
    intro ds hl ha hne hh
    have hd : ds = ds.dropLast ++ [ds.getLast hne] := (List.dropLast_concat_getLast hne).symm
    generalize ds.getLast hne = c at hd
    generalize ds.dropLast = es at hd
    subst hd
    have hc := ha c (by simp)
    rw [val_snoc]
    by_cases he : es = []
    · subst he
      have hc0 : c ≠ 48 := fun z => hh (by rw [z]; rfl)
      show TL.numL (0 * 10 + (c - 48)) = [c] ∧ _
      rw [Nat.zero_mul, Nat.zero_add, TL.numL_lt (by omega)]
      exact ⟨by rw [show 48 + (c - 48) = c by omega], by show 0 < 0 * 10 + (c - 48); omega⟩
    · have hl' : es.length = n := by simp at hl; omega
      have hh' : es.head? ≠ some 48 := by
        cases es with
        | nil => exact absurd rfl he
        | cons a b => exact hh
      obtain ⟨i1, i2⟩ := ih es hl' (fun d hd => ha d (by simp [hd])) he hh'
      refine ⟨?_, by omega⟩
      rw [TL.numL_step (by omega), show (digitsVal es * 10 + (c - 48)) / 10 = digitsVal es by omega, i1, show (digitsVal es * 10 + (c - 48)) % 10 = c - 48 by omega, show 48 + (c - 48) = c by omega]
theorem numL_head (n : Nat) : TL.numL n = [48] ∧ n = 0 ∨ (TL.numL n).head? ≠ some 48 ∧ 0 < n := by
  induction n using Nat.strongRecOn with
  | _ n ih =>
    by_cases h : n < 10
    · rw [TL.numL_lt h]
      by_cases h0 : n = 0
      · left; subst h0; exact ⟨rfl, rfl⟩
      · right; exact ⟨fun z => by have : 48 + n = 48 := by simpa using z
                                  omega, by omega⟩
    · right
      refine ⟨?_, by omega⟩
      rw [TL.numL_step (by omega)]
      rcases ih (n / 10) (by omega) with ⟨_, z⟩ | ⟨z, _⟩
      · omega
      · cases hq : TL.numL (n / 10) with
        | nil => exact absurd hq (TL.numL_ne _)
        | cons a b => rw [hq] at z; exact z
theorem head45 {l : List Nat} (h : l.head? = some 45) : ∃ r, l = 45 :: r := by
  cases l with
  | nil => cases h
  | cons c r => have : c = 45 := by simpa using h
                subst this; exact ⟨r, rfl⟩
end L3
end
section
namespace L3
open PySem PySem.Spec PyProof.Rows L2 LamX
theorem pen_heap (a c : Addr) (n : Nat) : ∃ h : Heap, (∃ (spot rest : Int) (t u : Tok) (k : Nat), h.get? a = some { cls := .type "list", data := .seq #[.ref c, .int spot t, .int rest u] k } ∧ 0 ≤ spot ∧ spot ≤ n) ∧
    ∀ b o, h.get? b = some o → o.cls = .type "list" ∧ ∀ vs, o.data ≠ .fields vs := by
  let ob : Obj := { cls := .type "list", data := .seq #[.ref c, .int 0 0, .int 0 0] 0 }
  refine ⟨{ objs := Array.replicate (a + 1) ob }, ⟨0, 0, 0, 0, 0, ?_, by decide, by omega⟩, fun b o e => ?_⟩
  · unfold Heap.get?
    have : (Array.replicate (a + 1) ob)[a]? = some ob := by simp
    show (match (Array.replicate (a + 1) ob)[a]? with | some ⟨_, _, .freed, _⟩ => none | o => o) = _
    rw [this]
  · unfold Heap.get? at e
    have q : (Array.replicate (a + 1) ob)[b]? = none ∨ (Array.replicate (a + 1) ob)[b]? = some ob := by
      by_cases h : b < a + 1
      · right; simp [h]
      · left; exact Array.getElem?_eq_none (by rw [Array.size_replicate]; exact Nat.le_of_not_lt h)
    change (match (Array.replicate (a + 1) ob)[b]? with | some ⟨_, _, .freed, _⟩ => none | o => o) = some o at e
    rcases q with q | q
    · rw [q] at e; cases e
    · rw [q] at e; cases e
      exact ⟨rfl, fun vs z => nomatch z⟩
theorem codeO_pen {k a c : Addr} {n : Nat} {q : Str} : CodeO k q ≠ PenO a c n := fun e => by
  unfold CodeO PenO at e
  injection e with e
  obtain ⟨h, h1, h2⟩ := pen_heap a c n
  rw [← congrFun e h] at h1
  obtain ⟨o, vs, _, g1, g2, _⟩ := h1
  exact (h2 _ _ g1).2 vs g2
/-- the pen stands, so do the tables -/
structure Wo (T : List (Addr × Str)) (H : Hp) (a : Addr) (n : Nat) : Prop where
  pen : Pen H a n
  tabs : Tabs T H
/-- an object that is told otherwise than a pen does not lie at the pen's place -/
theorem Pen.ne {H : Hp} {a : Addr} {n : Nat} (p : Pen H a n) {b : Addr} {o : HO} (h : H b = some o) (d : ∀ c n, o ≠ PenO a c n) : b ≠ a := fun z => by
  obtain ⟨c, ns, ha, _⟩ := p
  rw [z, ha] at h
  exact d c n (Option.some.inj h).symm
theorem Wo.keep {T : List (Addr × Str)} {H H' : Hp} {a : Addr} {n m : Nat} (w : Wo T H a n) (p : Pen H' a m) (k : ∀ b o, b ≠ a → H b = some o → H' b = some o) : Wo T H' a m := by
  refine ⟨p, fun t ht => ?_⟩
  obtain ⟨ps, h1, h2, h3⟩ := w.tabs t ht
  refine ⟨ps, k _ _ (w.pen.ne h1 fun c n z => by unfold PenO at z; cases z) h1, h2, fun pos cv hc => ?_⟩
  obtain ⟨c, e1, e2⟩ := h3 pos cv hc
  exact ⟨c, e1, k _ _ (w.pen.ne e2 fun _ _ => codeO_pen) e2⟩
theorem Wo.ex {T : List (Addr × Str)} {H H' : Hp} {a : Addr} {n : Nat} (w : Wo T H a n) (k : Ex H H') : Wo T H' a n := by
  obtain ⟨c, ns, h1, h2, h3⟩ := w.pen
  exact ⟨⟨c, ns, k _ _ h1, k _ _ h2, h3⟩, w.tabs.ext k⟩
theorem Xt.trans {a : Addr} {H H1 H2 : Hp} (x : Xt a H H1) (y : Xt a H1 H2) : Xt a H H2 := fun b o h1 h2 h => y b o h1 h2 (x b o h1 h2 h)
theorem Xt.of {a : Addr} {H H' : Hp} (k : ∀ b o, b ≠ a → H b = some o → H' b = some o) : Xt a H H' := fun b o h _ e => k b o h e
def tPenNew (t : TS) : TS := fun D σ H => t { D with rt := fun v H' => ∃ p c rest ns, v = .ref p ∧ H' p = some (.lst [.ref c, .int 0, .int rest]) ∧ H' c = some (.lst ((ns : List Int).map V.int)) ∧ c ≠ p ∧ D.rt v (upd (upd H' p (PenO p c 0)) c (ScO c ns)) } σ H
theorem pss_penNew {X : Cx} {sts : List Stmt} {t : TS} (h : PSs X sts t) : PSs X sts (tPenNew t) := by
  refine ⟨fun pins s σ H D I hw => thn (h.run pins s σ H _ I hw) fun f s' q => ?_⟩
  match f, q with
  | .next, q => exact q
  | .brk, q => exact q
  | .cont, q => exact q
  | .ret u, q =>
    obtain ⟨v, σ', H', I', r, p, c, rest, ns, e, hp, hc, hn, z⟩ := q
    exact ⟨v, σ', _, Inv.scClose (Inv.penClose I' hp (Int.le_refl 0) (Int.le_refl 0)) (by rw [upd_ne hn]; exact hc), r, z⟩
def spPen (K : PySem.W.Frag) : Sp := fun vs H Q _ => ∃ a ns, vs = [.ref a] ∧ SqL K H a (ns.map V.int) ∧ (ns : List Int).length ≤ 63 ∧ ∀ p H', H p = none → Ex H H' → Pen H' p 0 → Q (.ref p) H'
def spPick : Sp := fun vs H Q _ => ∃ a l n xs, vs = [.ref a, .ref l] ∧ H l = some (.lst xs) ∧ xs ≠ [] ∧ xs.length ≤ 100000 ∧ Pen H a n ∧ n < lim ∧
  ∀ v H', v ∈ xs → Pen H' a (n + 1) → (∀ b o, b ≠ a → H b = some o → H' b = some o) → Q v H'
end L3
end
section
namespace L3
open PySem PySem.Spec PyProof.Rows L2
variable {K : PySem.W.Frag} {σ : L2.St} {H : Hp} {te : TE} {Q : VK}
/-- a comprehension over a range whose turns draw -/
theorem lcPen {a : Addr} {n N q j : Nat} {vs : List Nat} (p : V → Prop) (hp : Pen H a n) (hN : N < sizeLine) (hw : ∀ x, wipe ((wipe σ vs).set j (some x)) vs = wipe σ vs)
    (he : ∀ (i : Nat) (H' : Hp) (m : Nat) (R : VK), i < N → (∀ b o, b ≠ a → H b = some o → H' b = some o) → Pen H' a m → m ≤ n + q * i →
      (∀ y H2 m2, (∀ b o, b ≠ a → H' b = some o → H2 b = some o) → Pen H2 a m2 → m2 ≤ m + q → p y → R y H2) → te ((wipe σ vs).set j (some (.int (0 + i)))) H' R)
    (k : ∀ D H2 m ys, H D = none → (∀ b o, b ≠ a → H b = some o → H2 b = some o) → Pen H2 a m → m ≤ n + q * N → ys.length = N → (∀ y ∈ ys, p y) → H2 D = some (.lst ys) → Q (.ref D) H2) :
    LC (Itr 0 N) (gName j) tYes te vs σ H Q := by
  intro Dl hD
  have hDa : Dl ≠ a := by
    rintro rfl
    obtain ⟨c, ns, z, _⟩ := hp
    rw [hD] at z; cases z
  have pu : ∀ {H : Hp} {m : Nat} {o : HO}, Pen H a m → H Dl = none ∨ (∃ xs, H Dl = some (.lst xs)) → Pen (upd H Dl o) a m := by
    rintro H m o ⟨c, ns, z1, z2, z3⟩ hd
    refine ⟨c, ns, by rw [upd_ne (Ne.symm hDa)]; exact z1, ?_, z3⟩
    rw [upd_ne ?_]; exact z2
    rintro rfl
    rcases hd with hd | ⟨xs, hd⟩ <;> rw [hd] at z2 <;> (try unfold ScO at z2) <;> cases z2
  refine lc_it walk_range (fun i H' => (∃ m, Pen H' a m ∧ m ≤ n + q * i) ∧ (∀ b o, b ≠ a → H b = some o → H' b = some o) ∧ ∃ ys, H' Dl = some (.lst ys) ∧ ys.length = i ∧ ∀ y ∈ ys, p y)
    ⟨⟨n, pu hp (.inl hD), by omega⟩, fun b o _ hb => by rw [upd_ne (ne_of_none hb hD)]; exact hb, [], upd_same, rfl, by simp⟩ (fun _ _ _ _ => trivial) ?_ ?_
  · rintro i x H1 H2 hi ⟨⟨m, p1, p2⟩, k1, ys, l1, l2, l3⟩ ⟨rfl, rfl⟩
    refine ⟨hw _, ?_⟩
    refine he i H2 m _ hi k1 p1 p2 fun y H3 m3 k3 p3 hm hy => ?_
    have l4 := k3 _ _ hDa l1
    refine ⟨ys, l4, by omega, ⟨m3, pu p3 (.inr ⟨_, l4⟩), by rw [Nat.mul_succ]; omega⟩, fun b o hb ho => ?_, ys ++ [y], upd_same, by simp [l2], ?_⟩
    · rw [upd_ne (ne_of_none ho hD)]; exact k3 _ _ hb (k1 _ _ hb ho)
    · intro z hz
      rcases List.mem_append.mp hz with hz | hz
      · exact l3 z hz
      · rw [List.mem_singleton.mp hz]; exact hy
  · rintro H1 ⟨⟨m, p1, p2⟩, k1, ys, l1, l2, l3⟩
    exact k _ _ _ _ hD k1 p1 p2 l2 l3 l1
end L3
end
section
namespace L3
open PySem PySem.Spec PyProof.Rows L2
variable {K : PySem.W.Frag} {σ : L2.St} {H : Hp} {te : TE} {Q : VK}
def flatD : V → PyData
  | .int i => .int i
  | .bl b => .bool b
  | .str z => .str z
  | _ => .none
def fitF : V → Bool
  | .int i => decide (i.natAbs.log2 < 1920)
  | .bl _ => true
  | .non => true
  | _ => false
theorem len_app (a b : Str) : (a ++ b).length = a.length + b.length := by
  rw [← len_codes, ← len_codes, ← len_codes]
  show (a.cps ++ b.cps).toList.length = _
  rw [Array.toList_append, List.length_append]
theorem textFrom_ub : ∀ (ts : List Str) (k : Nat) (acc : Str), (textFrom k acc ts).length ≤ acc.length + (ts.map fun t => t.length + 2).sum
  | [], k, acc => Nat.le_refl _
  | t :: r, k, acc => by
    have := textFrom_ub r (k + 1) (acc ++ (if k > 0 then ", " else "" : String) ++ t)
    have h2 : (Str.ofString (if k > 0 then ", " else "" : String)).length ≤ 2 := by split <;> decide
    rw [len_app, len_app] at this
    rw [List.map_cons, List.sum_cons]
    exact Nat.le_trans this (by omega)
theorem listText_ub (ts : List Str) : (listText ts).length ≤ 2 + (ts.map fun t => t.length + 2).sum := by
  unfold listText
  rw [len_app]
  have := textFrom_ub ts 0 "["
  have e1 : (Str.ofString "[").length = 1 := by decide
  have e2 : (Str.ofString "]").length = 1 := by decide
  omega
theorem strOf_len {i : Int} {k : Nat} (hk : 0 < k) (h : i.natAbs < 10 ^ k) : (strOf i).length ≤ k + 1 := by
  by_cases h0 : 0 ≤ i
  · obtain ⟨m, rfl⟩ := Int.eq_ofNat_of_zero_le h0
    have e := strOf_nat m
    have hl := TL.numL_len (n := m) (k := k) hk (by simpa using h)
    rw [← len_codes, e]; omega
  · obtain ⟨m, rfl⟩ : ∃ m : Nat, i = -(m : Int) := ⟨i.natAbs, by omega⟩
    have e := strOf_neg (m := m) (by omega)
    have hl := TL.numL_len (n := m) (k := k) hk (by simpa using h)
    rw [← len_codes, e, List.length_cons]; omega
theorem log_big {n : Nat} (h : n.log2 < 1920) : n < 10 ^ 1000 := by
  by_cases h0 : n = 0
  · rw [h0]; exact Nat.pow_pos (by decide)
  · rw [Nat.log2_lt h0] at h
    refine Nat.lt_of_lt_of_le h ?_
    have e : 2 ^ 1920 = (2 ^ 96) ^ 20 := by rw [← Nat.pow_mul]
    have e' : 10 ^ 1000 = (10 ^ 50) ^ 20 := by rw [← Nat.pow_mul]
    rw [e, e']
    exact Nat.pow_le_pow_left (by decide) 20
theorem fit_shown {x : V} (h : fitF x = true) : (flatD x).shown.length ≤ 1001 := by
  cases x with
  | int i => exact strOf_len (by decide) (log_big (of_decide_eq_true h))
  | bl b => show (if b then Str.ofString "True" else "False").length ≤ _; cases b <;> decide
  | non => show (Str.ofString "None").length ≤ _; decide
  | _ => cases h
theorem fit_list : ∀ xs : List V, xs.all fitF = true → (PyData.shownAll (xs.map flatD)).length = xs.length ∧ ((PyData.shownAll (xs.map flatD)).map fun t => t.length + 2).sum ≤ 1003 * xs.length ∧ PyData.showableAll (xs.map flatD) = true ∧ PyData.depthAll (xs.map flatD) ≤ 1 ∧ DpAll K H xs (xs.map flatD)
  | [], _ => ⟨rfl, Nat.le_refl _, rfl, by decide, .nil⟩
  | x :: r, h => by
    rw [List.all_cons, Bool.and_eq_true] at h
    obtain ⟨h1, h2, h3, h4, h5⟩ := fit_list r h.2
    have hs := fit_shown h.1
    refine ⟨by show _ + 1 = _ + 1; rw [h1], ?_, ?_, ?_, ?_⟩
    · have e : ((PyData.shownAll ((x :: r).map flatD)).map fun t => t.length + 2).sum = ((flatD x).shown.length + 2) + ((PyData.shownAll (r.map flatD)).map fun t => t.length + 2).sum := by
        show List.sum (_ :: _) = _
        rw [List.sum_cons]
      rw [e, List.length_cons]
      omega
    · show ((flatD x).showable && _) = true
      rw [h3, Bool.and_true]
      cases x with
      | int i => exact h.1
      | bl b => rfl
      | non => rfl
      | _ => cases h.1
    · show max (flatD x).depth _ ≤ 1
      refine Nat.max_le.mpr ⟨?_, h4⟩
      cases x with
      | int i => exact Nat.zero_le _
      | bl b => exact Nat.zero_le _
      | non => exact Nat.zero_le _
      | _ => cases h.1
    · refine .cons ?_ h5
      cases x with
      | int i => exact .int i
      | bl b => exact .bl b
      | non => exact .non
      | _ => cases h.1
theorem s_reprF {p : Addr} {xs : List V} (hp : H p = some (.lst xs)) (hf : xs.all fitF = true) (hn : xs.length ≤ 1000) (h : Q (.str (PyData.list (xs.map flatD)).shown) H) : rRepr K [.ref p] H Q := by
  obtain ⟨h1, h2, h3, h4, h5⟩ := fit_list (K := K) (H := H) xs hf
  refine s_repr (.lst (.inl (.inl hp)) h5) h3 (by show _ + 1 ≤ _; omega) ?_ h
  show (listText (PyData.shownAll (xs.map flatD))).length ≤ _
  rw [sizeLine_eq]
  have := listText_ub (PyData.shownAll (xs.map flatD))
  omega
end L3
end
section
namespace L3
open PySem PySem.Spec PyProof.Rows L2
/-- what the written part says of the class C, its __init__ at f with the code object cda and the cell cc -/
structure SupF (P : Program) (K : PySem.W.Frag) (mg : Str → Option Value) (C f cda cc : Addr) (scope : Scope) : Prop where
  oex : OexC K C
  cell : ∃ cl cld csl, K.lookup cc = some ⟨cl, cld, .cell (some (.ref C)), csl⟩
  code : ∃ ccl cdd vs ccs file tf, K.lookup cda = some ⟨ccl, cdd, .fields vs, ccs⟩ ∧ vs[2]? = some (.str file tf) ∧ ((P.main.file : Str) == file) = true
  mro : PySem.W.mroIn K C (.ref C) = some true
  noS : mg "super" = none
  top : (P.main.scope.names.lookup ("super" : Str)).isSome = false
  opq : PySem.W.nsIn K cStatics "thirdparty.any" = some none
  sup : PySem.W.ks_superIn K C C "__init__" = some (some (.builtin "ValueError.__init__"))
  sub : PySem.W.subIn K (.ref C) (.type "ValueError") = some true
  sSup : scope.names.lookup ("super" : Str) = some .globalImplicit
  sCls : scope.names.lookup ("__class__" : Str) = some .free
def supF (qual : Str) (params : Arguments) (body : List Stmt) (scope : Scope) (cc cda : Addr) : NdefX.NF := ⟨"__init__", qual, params, body, scope, [("__class__", cc)], cda⟩
theorem okSup {P : Program} {w : World} {K : PySem.W.Frag} {mg : Str → Option Value} {base : Heap} {CX : CXT} {k : Nat} {C f cda cc : Addr} {qual msg : Str} {params : Arguments} {rest : List Stmt} {scope : Scope} {kV doc pm ct oc : Value} {an od : Option Addr} {osl : Array (Option Value)} {N ps : List Str} {sp : Sp}
    {p0 p1 p2 p3 p4 p5 : Pos} {j : Nat} {ar : Arg} {body : List Stmt}
    (hbd : body = .Expr (.Call (.Attribute (.Call (.Name "super" p0) [] [] p1) "__init__" p2) [.Constant (.str msg) j p3] [] p4) p5 :: rest)
    (lk : K.lookup f = some ⟨oc, od, .func (PySem.W.fnX "__init__" qual params body scope [("__class__", cc)] .none kV doc pm an (.ref cda) ct), osl⟩) (hcd : PySem.W.codeIn K (.ref cda) qual = true)
    (T : SupF P K mg C f cda cc scope) (S : NdefX.NScope N ps ["__class__"] scope) (hp : (params.posonlyargs ++ params.args).head? = some ar) (hps : ps.head? = some ar.arg) (hN0 : N[0]? = some ar.arg) (hna : scope.names.lookup ar.arg = some .local)
    (hev : ∀ env : Env, env.scope = scope → ∃ pl, eval (.Call (.Attribute (.Call (.Name "super" p0) [] [] p1) "__init__" p2) [.Constant (.str msg) j p3] [] p4) env = (do
      let ov ← attributeBase (.Call (.Name "super" p0) [] [] p1) "__init__" env (eval (.Call (.Name "super" p0) [] [] p1) env)
      standAt p2.atName
      let (f, first) ← holding [ov] (getMethod ov "__init__" pl)
      callWith p4 f first (backTo p4 (starEach [.Constant (.str msg) j p3] env)) []))
    (len : ∀ vs H Q E, sp vs H Q E → vs.length = ps.length)
    (run : ∀ (A : Around) (outer : List Env) (s : Shared) (H : Hp) (vs : List V) (Q : VK) (E : XK), Room k (A.deeper (NdefX.envF (supF qual params body scope cc cda) f s.heap.objs.size)) → sp vs H Q E →
      ∃ a ws, vs = .ref a :: ws ∧ H a = some (exo a C none) ∧ ∃ t, PSs (NdefX.ncx CX P w K mg base N (supF qual params body scope cc cda) f A outer s H E) rest t ∧ t { nx := fun _ H' => Q .non H', rt := Q } (NdefX.startF N vs [some (.ref C)]) H) :
    FnOk P w K mg base CX (k + 1) f (PySem.W.fnX "__init__" qual params body scope [("__class__", cc)] .none kV doc pm an (.ref cda) ct) ps sp := by
  refine ⟨len, fun A outer s H args us vs Q E hr e0 hb r h => ?_⟩
  have KX : K.In s.heap := e0.mod.kin.keeps fun b o e => (e0.bs b o e).1
  have lim : s.heap.NoLimit := e0.mod.nolimit.keeps fun b o e => (e0.bs b o e).1
  obtain ⟨cl, cld, csl, hcell⟩ := T.cell
  have hl := len _ _ _ _ h
  have cells : NdefX.CellsAt [("__class__", cc)] ["__class__"] [some (.ref C)] s.heap H := by
    have hkb := e0.mod.kin _ _ hcell
    have look : ∀ {y c}, List.lookup y [(("__class__" : Str), cc)] = some c → y = "__class__" ∧ c = cc := fun {y c} e => by
      rw [List.lookup_cons] at e
      by_cases hy : y == ("__class__" : Str)
      · rw [hy] at e; exact ⟨beq_iff_eq.mp hy, (Option.some.inj e).symm⟩
      · rw [Bool.eq_false_iff.mpr hy] at e; cases e
    refine ⟨rfl, fun y c e => ?_, fun x y c e1 e2 => (look e1).1.trans (look e2).1.symm, fun i y hy => ?_⟩
    · rw [(look e).2]
      exact ⟨(e0.bs _ _ hkb).2, _, _, KX _ _ hcell, rfl⟩
    · match i, hy with
      | 0, hy =>
        cases hy
        refine ⟨cc, rfl, fun v hv => ?_⟩
        cases hv
        exact ⟨_, rfl, _, KX _ _ hcell, rfl⟩
  refine PySem.ks_codeAny_call_defAt (fd := PySem.W.fnX "__init__" qual params body scope [("__class__", cc)] .none kV doc pm an (.ref cda) ct) (body := body) hr.depth (KX _ _ lk) rfl lim (PySem.W.codeRec_of KX hcd) rfl hb S.nocell (fun ⟨n, _⟩ hy => S.par n (List.of_mem_zip hy).1) (fun h₁ hns kp => ?_) S.co S.gen S.kind
  obtain ⟨a, ws, hvs, ha, t, ht, hq⟩ := run A outer s H vs Q E (hr.deeper _) h
  have I : Inv (NdefX.ncx CX P w K mg base N (supF qual params body scope cc cda) f A outer s H E) [] (NdefX.startF N vs [some (.ref C)]) H { s with heap := h₁, toks := s.toks + (ps.zip us).length } := NdefX.inv_startN S hr.hd e0 hl r cells hns kp
  subst hbd
  subst hvs
  obtain ⟨nm, q, Nn, bs, bm, sn, sub, ab, col, dd, k0, k1, k2, k3, k5, hC, hbm⟩ := T.oex.cls
  obtain ⟨ccl, cdd, vs2, ccs, file, tf, hcode, hv2, hfile⟩ := T.code
  obtain ⟨t1, hox⟩ := exo_at I.hok ha
  have K1 : K.In h₁ := I.kIn
  obtain ⟨u0, us', rfl, r0, r'⟩ : ∃ u0 us', us = u0 :: us' ∧ RelV (.ref a) u0 ∧ Vals ws us' := by
    cases r with
    | cons r0 r' => exact ⟨_, _, rfl, r0, r'⟩
  obtain rfl : u0 = Value.ref a := r0
  have hps0 : ps[0]? = some ar.arg := by rw [← List.head?_eq_getElem?]; exact hps
  have hv : (ps.zip (Value.ref a :: us')).reverse.lookup ar.arg = some (.ref a) := NdefX.zip_look (i := 0) (by
      have e := S.pre
      have nd := S.nd.sublist (List.take_sublist (ps.length + 1) N)
      rw [show (["__class__"] : List Str).length = 1 from rfl] at e
      rw [e] at nd
      exact (List.nodup_append.mp nd).1) hps0 rfl
  obtain ⟨pl, he⟩ := hev (NdefX.envF (supF qual params [] scope cc cda) f s.heap.objs.size) rfl
  refine PySem.ks_wpAt_execs_cons (PySem.ks_wpAt_Expr_any (PySem.ks_wpAt_MethodCall (pl := pl) ?_ he) (hi := I.quiet))
  refine PySem.ks_wpAt_super_base (f := f) (cc := cda) T.sSup T.sCls (by decide) rfl (K1 _ _ lk) rfl hp rfl (K1 _ _ hcode) rfl hv2 hfile T.top ?_
  have hD : h₁.get? C = some _ := K1 _ _ hC
  obtain ⟨mb, b1, b2⟩ := I.mod.blt
  refine PySem.W.ks_loadName_global S.kind T.sSup (Calls.loadGlobal_builtin (I.mod.glob.keeps I.bk) T.noS (b1.keeps I.bk) ((b2 _ (by decide)).trans (by rfl)) ⟨rfl, ?_⟩)
  refine wpAny_loadName_free S.kind T.sCls rfl ⟨_, K1 _ _ hcell, rfl⟩ ?_
  refine wpAny_loadName_local S.kind hna hns hv ?_
  refine PySem.ks_wpAny_isType_cls hD rfl ⟨rfl, ?_⟩
  refine PySem.ks_wpAny_call_super hD rfl hox rfl (fun c e => nomatch e) (PySem.W.looks_mroIn K1 T.mro) (fun h2 e2 kp2 => ?_)
  have I2 := I.kept (t' := s.toks + (ps.zip (Value.ref a :: us')).length) kp2
  have K2 : K.In h2 := I2.kIn
  have hcl : PySem.W.clsIn K C = some { name := nm, bases := bs, mro := .ref C :: bm, ns := Nn, qualname := q, hasDict := true, slotNames := sn, subclasses := sub, abstract := ab, collection := col, hasDel := false } := by unfold PySem.W.clsIn; rw [hC] <;> rfl
  have hsup := T.sup
  unfold PySem.W.ks_superIn at hsup
  rw [hcl] at hsup
  obtain ⟨t2, ho2⟩ := exo_at I2.hok ha
  have IA : PySem.W.InstAt h2 a _ C none := ⟨ho2, rfl, rfl, trivial⟩
  refine PySem.W.kxs_getMethod PySem.W.kxs_ValueError e2 (PySem.W.looks_opaque K2 T.opq) (l₀ := .ref C :: bm) (fun A Q E s k q => wpAny_bind ((PySem.W.looks_clsIn K2 hcl) A _ E s k (wpAny_pure q))) rfl K2 hsup (IA.type.andThen (PySem.W.looks_subIn K2 T.sub)) (PySem.W.ks_ne K2 IA hcl) (by decide) ?_
  have kp3 : ∀ b o, h2.get? b = some o → (h2.push (PySem.W.kxs_mw "ValueError.__init__" a)).get? b = some o := fun b o e => Heap.get?_push_of_some _ e
  have I3 := I2.kept (t' := s.toks + (ps.zip (Value.ref a :: us')).length + 1) kp3
  have hu : (h2.push (PySem.W.kxs_mw "ValueError.__init__" a)).get? h2.objs.size = some (PySem.W.kxs_mw "ValueError.__init__" a) := Heap.get?_push_at rfl rfl
  generalize h2.push (PySem.W.kxs_mw "ValueError.__init__" a) = h3 at I3 hu ⊢
  generalize h2.objs.size = u at hu ⊢
  refine PySem.W.kxs_callWith (i := "ValueError.__init__") (x := a) rfl (Calls.evalArgs_plain (Calls.spliced_cons (Calls.Constant_str (k := j) (pos := p3) (Calls.spliced_nil ⟨hu, ?_⟩))))
  have I4 := I3.tok (s.toks + (ps.zip (Value.ref a :: us')).length + 1 + 1)
  have K4 : K.In h3 := I4.kIn
  obtain ⟨t4, ho4⟩ := exo_at I4.hok ha
  refine wpAny_call (codeAny_of_tree ?_)
  show wpAny _ _ (callAny (.ref u) ⟨_, []⟩) _ _ _
  simp only [callAny]
  refine wpAny_bind (wpAny_load hu ?_)
  simp only [PySem.W.kxs_mw, show (Value.type "method-wrapper" == Value.type "method" || Value.type "method-wrapper" == Value.type "builtin_function_or_method" || Value.type "method-wrapper" == Value.type "method-wrapper") = true by decide, if_true]
  refine PySem.W.KFB.if_so (by decide) ?_
  refine wpAny_bind (PySem.W.check_bound_init F.excBase_ValueError.toExcCallFacts (K4 _ _ hC) ho4 rfl ?_)
  refine wpAny_bind (wpAny_pure (wpAny_pure ?_))
  refine ⟨plainId_quiet F.excBase_ValueError.init.plain _, codeAny_builtin F.excBase_ValueError.initEntry ?_⟩
  refine PySem.W.exc_init_tree (cls := .ref C) (t0 := t4) (dv := none) (c2 := .none) (c3 := .none) (b4 := .bool false) ho4 (by show 1 ≤ sizeLine; rw [sizeLine_eq]; decide) (fun h5 kp5 hx5 _ => ?_)
  have J := I4.write (t' := s.toks + (ps.zip (Value.ref a :: us')).length + 1 + 1) (x := a) (e := a) (o := exo a C none) (by rw [ha]; exact True.intro) (.inl rfl) kp5 ⟨_, hx5⟩ (exo_ok hx5)
  have eu : upd H a (exo a C none) = H := by
    funext b
    by_cases hb : b = a
    · rw [hb, upd_same, ha]
    · rw [upd_ne hb]
  rw [eu] at J
  refine PySem.wpAt_of_wpAny (wpAny_mono (ht.run [] _ _ H _ J hq) (fun fl s' hs => ?_) fun e s' hs => hs)
  cases fl with
  | ret u =>
    obtain ⟨v, σ', H', J', rv, q⟩ := hs
    exact ⟨v, H', J'.os, J'.bare, J'.base, J'.hok, rv, q⟩
  | next =>
    obtain ⟨σ', H', J', q⟩ := hs
    exact ⟨.non, H', J'.os, J'.bare, J'.base, J'.hok, rfl, q⟩
  | brk =>
    obtain ⟨_, _, _, q⟩ := hs
    exact False.elim q
  | cont =>
    obtain ⟨_, _, _, q⟩ := hs
    exact False.elim q
end L3
namespace L3
open PySem PySem.Spec PyProof.Rows L2
/-- one field, two fields, none -/
def spErr1 (C : Addr) (f : Str) : Sp := fun vs H Q _ => ∃ a v, vs = [.ref a, v] ∧ H a = some (exo a C none) ∧ ∀ dx, H dx = none → dx ≠ a → Q .non (upd (upd H dx (exd dx [(f, v)])) a (exo a C (some dx)))
def spErr2 (C : Addr) (f g : Str) : Sp := fun vs H Q _ => ∃ a v y, vs = [.ref a, v, y] ∧ H a = some (exo a C none) ∧ ∀ dx, H dx = none → dx ≠ a → Q .non (upd (upd (upd H dx (exd dx [(f, v)])) a (exo a C (some dx))) dx (exd dx [(g, y), (f, v)]))
abbrev stSup (msg : Str) (j : Nat) (p0 p1 p2 p3 p4 p5 : Pos) : Stmt := .Expr (.Call (.Attribute (.Call (.Name "super" p0) [] [] p1) "__init__" p2) [.Constant (.str msg) j p3] [] p4) p5
abbrev stFld (f x : Str) (q1 q2 q3 q4 : Pos) : Stmt := .Assign [.Attribute (.Name "self" q1) f q2] (.Name x q3) q4
section
variable {P : Program} {w : World} {K : PySem.W.Frag} {mg : Str → Option Value} {base : Heap} {CX : CXT} {C f cda cc : Addr} {qual msg x y g1 g2 : Str} {params : Arguments} {scope : Scope} {kV doc pm ct oc : Value} {an od : Option Addr} {osl : Array (Option Value)}
  {p0 p1 p2 p3 p4 p5 q1 q2 q3 q4 q5 q6 q7 q8 : Pos} {j : Nat} {ar : Arg} {body : List Stmt}
theorem okErr1 (hbd : body = [stSup msg j p0 p1 p2 p3 p4 p5, stFld g1 x q1 q2 q3 q4])
    (lk : K.lookup f = some ⟨oc, od, .func (PySem.W.fnX "__init__" qual params body scope [("__class__", cc)] .none kV doc pm an (.ref cda) ct), osl⟩) (hcd : PySem.W.codeIn K (.ref cda) qual = true)
    (T : SupF P K mg C f cda cc scope) (S : NdefX.NScope ["self", x, "__class__"] ["self", x] ["__class__"] scope) (hp : (params.posonlyargs ++ params.args).head? = some ar) (har : ar.arg = "self")
    (hev : ∀ env : Env, env.scope = scope → ∃ pl, eval (.Call (.Attribute (.Call (.Name "super" p0) [] [] p1) "__init__" p2) [.Constant (.str msg) j p3] [] p4) env = (do
      let ov ← attributeBase (.Call (.Name "super" p0) [] [] p1) "__init__" env (eval (.Call (.Name "super" p0) [] [] p1) env)
      standAt p2.atName
      let (f, first) ← holding [ov] (getMethod ov "__init__" pl)
      callWith p4 f first (backTo p4 (starEach [.Constant (.str msg) j p3] env)) []))
    (hx : (x == ("__debug__" : Str)) = false) (hx2 : (x == ("__classdict__" : Str)) = false) (n1 : PySem.W.findIn K (.ref C) g1 = some none) (hs : ∀ env : Env, env.scope = scope → swapsWith (.Name x q3) (some (.Attribute (.Name "self" q1) g1 q2)) q4.line env = pure false) :
    FnOk P w K mg base CX 1 f (PySem.W.fnX "__init__" qual params body scope [("__class__", cc)] .none kV doc pm an (.ref cda) ct) ["self", x] (spErr1 C g1) := by
  refine okSup hbd lk hcd T S hp (by rw [har]; rfl) (by rw [har]; rfl) (by rw [har]; exact S.par _ (by simp)) hev (fun vs H Q E h => ?_) (fun A outer s H vs Q E hr h => ?_)
  · obtain ⟨a, v, rfl, _⟩ := h; rfl
  · obtain ⟨a, v, rfl, ha, k⟩ := h
    refine ⟨a, _, rfl, ha, _, pss_one (ps_ost (pe_var (i := 0) rfl (.inl (S.par _ (by simp)))) (pe_var (i := 1) rfl (.inl (S.par _ (by simp))) hx hx2) (hs _ rfl)), ?_⟩
    refine ⟨v, rfl, .ref a, rfl, a, C, rfl, T.oex, n1, .inl ⟨ha, fun dx h1 h2 => ?_⟩⟩
    exact k dx h1 h2
theorem okErr2 (hbd : body = [stSup msg j p0 p1 p2 p3 p4 p5, stFld g1 x q1 q2 q3 q4, stFld g2 y q5 q6 q7 q8])
    (lk : K.lookup f = some ⟨oc, od, .func (PySem.W.fnX "__init__" qual params body scope [("__class__", cc)] .none kV doc pm an (.ref cda) ct), osl⟩) (hcd : PySem.W.codeIn K (.ref cda) qual = true)
    (T : SupF P K mg C f cda cc scope) (S : NdefX.NScope ["self", x, y, "__class__"] ["self", x, y] ["__class__"] scope) (hp : (params.posonlyargs ++ params.args).head? = some ar) (har : ar.arg = "self")
    (hev : ∀ env : Env, env.scope = scope → ∃ pl, eval (.Call (.Attribute (.Call (.Name "super" p0) [] [] p1) "__init__" p2) [.Constant (.str msg) j p3] [] p4) env = (do
      let ov ← attributeBase (.Call (.Name "super" p0) [] [] p1) "__init__" env (eval (.Call (.Name "super" p0) [] [] p1) env)
      standAt p2.atName
      let (f, first) ← holding [ov] (getMethod ov "__init__" pl)
      callWith p4 f first (backTo p4 (starEach [.Constant (.str msg) j p3] env)) []))
    (hx : (x == ("__debug__" : Str)) = false) (hx2 : (x == ("__classdict__" : Str)) = false) (hy : (y == ("__debug__" : Str)) = false) (hy2 : (y == ("__classdict__" : Str)) = false)
    (n1 : PySem.W.findIn K (.ref C) g1 = some none) (n2 : PySem.W.findIn K (.ref C) g2 = some none)
    (hs : ∀ env : Env, env.scope = scope → swapsWith (.Name x q3) (some (.Attribute (.Name "self" q1) g1 q2)) q4.line env = pure false) (hs2 : ∀ env : Env, env.scope = scope → swapsWith (.Name y q7) (some (.Attribute (.Name "self" q5) g2 q6)) q8.line env = pure false) :
    FnOk P w K mg base CX 1 f (PySem.W.fnX "__init__" qual params body scope [("__class__", cc)] .none kV doc pm an (.ref cda) ct) ["self", x, y] (spErr2 C g1 g2) := by
  refine okSup hbd lk hcd T S hp (by rw [har]; rfl) (by rw [har]; rfl) (by rw [har]; exact S.par _ (by simp)) hev (fun vs H Q E h => ?_) (fun A outer s H vs Q E hr h => ?_)
  · obtain ⟨a, v, y, rfl, _⟩ := h; rfl
  · obtain ⟨a, v, y', rfl, ha, k⟩ := h
    refine ⟨a, _, rfl, ha, _, pss_cons (ps_ost (pe_var (i := 0) rfl (.inl (S.par _ (by simp)))) (pe_var (i := 1) rfl (.inl (S.par _ (by simp))) hx hx2) (hs _ rfl))
      (pss_one (ps_ost (pe_var (i := 0) rfl (.inl (S.par _ (by simp)))) (pe_var (i := 2) rfl (.inl (S.par _ (by simp))) hy hy2) (hs2 _ rfl))), ?_⟩
    refine ⟨v, rfl, .ref a, rfl, a, C, rfl, T.oex, n1, .inl ⟨ha, fun dx h1 h2 => ?_⟩⟩
    refine ⟨y', rfl, .ref a, rfl, a, C, rfl, T.oex, n2, .inr ⟨dx, [(g1, v)], upd_same, ?_, (show 1 ≤ 900 by decide), ?_⟩⟩
    · rw [upd_ne h2]; exact upd_same
    · exact k dx h1 h2
end
end L3
end
section
namespace L3
open PySem PySem.Spec PyProof.Rows L2
/-- at a: an error of the class cls, its dict at d -/
def ExV (a : Addr) (cls : Value) (d : Option Addr) : HO := .ext fun h => ∃ oe, h.get? a = some oe ∧ Zc cls d oe ∧ ∃ vs, oe.data = .fields vs
theorem exV_ok {P : Program} {w : World} {H : Hp} {h : Heap} {a : Addr} {cls : Value} {d : Option Addr} {oe : Obj} (e : h.get? a = some oe) (z : Zc cls d oe) (f : ∃ vs, oe.data = .fields vs) : ObjOk P w H h a (ExV a cls d) :=
  ⟨⟨oe, e, z, f⟩, ⟨_, e⟩, fun _ _ ⟨o, q, z, f⟩ k => ⟨o, k _ q, z, f⟩⟩
section
variable {X : Cx} {pins : List (Addr × Obj)} {σ : L2.St} {H : Hp} {s : Shared}
/-- an object that was not there at the entry may be told from now on -/
theorem Inv.track {a : Addr} {o : HO} (I : Inv X pins σ H s) (na : H a = none) (n0 : X.s_0.heap.get? a = none) (nL : a ≠ X.env.locals) (nC : ∀ x c, X.env.cells.lookup x = some c → c ≠ a) (nP : ∀ p ∈ X.pn ++ pins, p.1 ≠ a) (new : ObjOk X.prog X.w (upd H a o) s.heap a o) :
    Inv X pins σ (upd H a o) s := by
  have ne0 : ∀ b u, X.s_0.heap.get? b = some u → b ≠ a := fun b u e z => by rw [z, n0] at e; cases e
  refine ⟨I.ok, I.os, I.bare, ⟨I.base.keep, I.base.slot, fun b u e n hx => ?_, I.base.there, fun b xs e => ?_, fun b u v e => ?_, fun b ps e => ?_⟩, I.loc, I.cell, ?_, fun x c e => ?_, fun p hp => ?_, I.hok.laidN (fun _ _ q => q) na new, I.len⟩
  · rw [upd_ne (ne0 b u e)]; exact I.base.free b u e n hx
  · have q := I.base.tups b xs e
    rw [upd_ne (ne_of_none q na)]; exact q
  · have q := I.base.frzs b u v e
    rw [upd_ne (ne_of_none q na)]; exact q
  · obtain ⟨m, q⟩ := I.base.tbls b ps e
    exact ⟨m, by rw [upd_ne (ne_of_none q na)]; exact q⟩
  · rw [upd_ne (Ne.symm nL)]; exact I.free
  · rw [upd_ne (nC x c e)]; exact I.freeC x c e
  · obtain ⟨h1, h2, h3, h4, h5⟩ := I.pin p hp
    exact ⟨h1, by rw [upd_ne (nP p hp)]; exact h2, h3, h4, h5⟩
end
/-- what 'except x as n: m = n' wishes: the error stays in slot m, told behind the suite -/
def wNote (K : PySem.W.Frag) (n : Nat) (c : Value) (i m : Nat) (Wout : WX) (D : Ends) : WX := fun cls d σ H =>
  ∃ b, PySem.W.exmOne K cls c = some b ∧ (b = true → σ.length = n → ∀ a, H a = none → D.nx (((σ.set i (some (.ref a))).set m (some (.ref a))).set i none) (upd H a (ExV a cls d))) ∧ (b = false → Wout cls d σ H)
section
variable {X : Cx} {x n mN : Str} {c : Value} {i m : Nat} {body : List Stmt} {np pos pos' p1 p2 p3 : Pos} {tb : WX → TS} {Wout : WX}
theorem ps_try_note (hs : X.stack = X.env :: X.outer) (hf : X.env.frame = some X.env.locals) (hex : X.ex = []) (hN : X.N.Nodup) (hi : X.N[i]? = some n) (hln : X.env.kindOf n = some .local) (hm : X.N[m]? = some mN) (hlm : X.env.kindOf mN = some .local) (hc : Names X x c) (tk : Takes X Wout)
    (hsw : swapsWith (.Name n p2) (some (.Name mN p1)) p3.line X.env = pure false) (hnd : (n == ("__debug__" : Str)) = false) (hnc : (n == ("__classdict__" : Str)) = false)
    (hb : ∀ (W : WX) (pn : List (Addr × Obj)) (xe : Value → Shared → Prop), Takes (X.tr pn xe) W → PassesOwn (model X.prog X.w) X.A X.env xe → PSs (X.tr pn xe) body (tb W)) :
    PS X (.Try body [.ExceptHandler (some (.Name x np)) (some n) [.Assign [.Name mN p1] (.Name n p2) p3] pos'] [] [] pos) (fun D σ H => tb (wNote X.K X.N.length c i m Wout D) D σ H) := by
  refine ⟨fun pins s σ H D I h => ?_⟩
  have ok := I.ok
  have frE : X.A.frames = some (X.env :: X.outer) := by rw [ok.frames, hs]
  refine wpAny_Try_except ?_
  refine wpAny_mono ((hb (wNote X.K X.N.length c i m Wout D) (X.pn ++ pins) (fun e s1 => wpAny (model X.prog X.w) X.A (noteFrame e X.env) (fun _ s2 => wpAny (model X.prog X.w) X.A (setFlight e none) (fun _ s3 =>
    wpAny (model X.prog X.w) X.A (handleBy e X.env [.ExceptHandler (some (.Name x np)) (some n) [.Assign [.Name mN p1] (.Name n p2) p3] pos']) (SP X pins D) X.xe s3) X.xe s2) X.xe s1) (fun u s' xx => ?_) PassesOwn.looking).run [] s σ H D (I.toTry _) h) (fun f s1 hsp => ?_) (fun e s1 he => he)
  · obtain ⟨a, B, sI, pins', σ', H', cls, d, rfl, J', nb, up, sky, na, os, ag, b, hb1, hyes, hno⟩ := xx
    have J : Inv X pins σ' H' sI := J'.ofTry ok
    have skyE : Sky B (X.env :: X.outer) a (Zc cls d) X.env.locals s'.heap := by rw [← hs]; exact sky
    show wpAny (model X.prog X.w) X.A (noteFrame (.ref a) X.env) _ _ _
    refine Sky.land Zc.steady frE hf skyE fun h3 fl3 up3 => ?_
    have J3 : Inv X pins σ' H' { s' with heap := h3 } := J.landed nb fl3.1 (up.trans up3) os ag
    obtain ⟨oe3, vs3, he3, hz3, hd3⟩ := fl3.there
    have far : ∀ {h : Heap} {o : Obj} {vs : Array Value}, h.FunFrames B (X.env :: X.outer) → h.get? a = some o → o.data = .fields vs → a ∉ frs (X.env :: X.outer) := fun {h o vs} ff e dd hm => by
      obtain ⟨_, o', e', hnf⟩ := ff.mem hm
      rw [e] at e'; cases e'
      exact hnf _ dd
    have nfr := far fl3.2.2.1 he3 hd3
    have nL : a ≠ X.env.locals := fun z => nfr (List.mem_filterMap.mpr ⟨X.env, List.mem_cons_self, by rw [hf, z]⟩)
    have nF : a ∉ X.fs := fun hm => by
      obtain ⟨e, he, q⟩ := List.mem_filterMap.mp hm
      exact nfr (List.mem_filterMap.mpr ⟨e, List.mem_cons_of_mem _ he, q⟩)
    have nI : sI.heap.get? a = none := by
      cases e : sI.heap.get? a with
      | none => rfl
      | some o =>
        have q := nb a o e (by rw [hs]; exact nfr)
        rw [fl3.2.1] at q; cases q
    have n0 : X.s_0.heap.get? a = none := by
      cases e : X.s_0.heap.get? a with
      | none => rfl
      | some o =>
        obtain ⟨o', q⟩ := J.base.there a o e (by rw [hex]; exact fun z => nomatch z)
        rw [nI] at q; cases q
    have nC : ∀ y c, X.env.cells.lookup y = some c → c ≠ a := fun y c e z => by
      obtain ⟨v, o, q, _⟩ := J.cell y c e
      rw [z, nI] at q; cases q
    have nP : ∀ p ∈ X.pn ++ pins, p.1 ≠ a := fun p hp z => by
      have q := (J.pin p hp).1
      rw [z, nI] at q; cases q
    have S3 := J3.suite he3 hd3 na nL nF
    refine wpAny_handleBy_cons (codeAny_handlers_test ?_) (by intro q; cases q)
    have LT : PySem.W.Looks (model X.prog X.w) h3 (typeOf (.ref a)) cls := fun A Q E s k q => wpAny_typeOf_ref (k _ _ he3) (by rw [hz3.1]; exact q)
    have LM := PySem.W.exm_one (M := model X.prog X.w) (J3.kIn) LT hb1
    have test : ∀ {Q : Value → Shared → Prop} {E : Value → Shared → Prop}, Q c { s' with heap := h3 } → wpAny (model X.prog X.w) (X.A.mark (some (.ref a))) (eval (.Name x np) X.env) Q E { s' with heap := h3 } := fun {Q E} q => by
      obtain ⟨hg, hdbg, hm | ⟨hm, hv, hnn⟩⟩ := hc
      · exact ld_glob (X := X.suite a ((a, oe3) :: (X.pn ++ pins))) S3 hg hm q hdbg
      · exact ld_blt (X := X.suite a ((a, oe3) :: (X.pn ++ pins))) S3 hg hm hv q hnn hdbg
    refine test (LM.here ?_)
    cases b with
    | true =>
      refine codeAny_handlers_suite_as ?_
      refine HandSPX.lands_againZ fl3 fun h4 fl4 up4 => ?_
      have J4 : Inv X pins σ' H' { s' with heap := h4 } := J.landed nb fl4.1 ((up.trans up3).trans up4) os ag
      obtain ⟨oe4, vs4, he4, hz4, hd4⟩ := fl4.there
      have S4 := J4.suite he4 hd4 na nL nF
      refine store_ok (X := X.suite a ((a, oe4) :: (X.pn ++ pins))) (v := .ref a) S4 hN hi (.inl hln) rfl (fun s5 S5 => ?_) (.inr hln)
      have suiteP : PSs (X.suite a ((a, oe4) :: (X.pn ++ pins))) [.Assign [.Name mN p1] (.Name n p2) p3] (tAsg (tVar i) (gName m)) := pss_one (ps_set (i := m) hN hm (.inl hlm) (pe_var (i := i) hi (.inl hln) hnd hnc) hsw (.inr hlm))
      have hlt : i < σ'.length := by
        rw [J.len]
        exact (List.getElem?_eq_some_iff.mp hi).1
      refine wpAny_mono (suiteP.run [] s5 _ H' { nx := fun σ6 H6 => σ6 = (σ'.set i (some (.ref a))).set m (some (.ref a)) ∧ H6 = H', rt := fun _ _ => False, bk := fun _ _ => False, ct := fun _ _ => False } S5 ⟨.ref a, List.getElem?_set_self hlt, rfl, rfl⟩) (fun f s6 hsp => ?_) (fun _ _ z => False.elim z)
      cases f with
      | next =>
        obtain ⟨σ6, H6, S6, e6, e7⟩ := hsp
        subst e6
        subst e7
        have pin6 := S6.pin (a, oe4) (List.mem_append_left _ List.mem_cons_self)
        have U6 := S6.unsuite ok
        have J6 : Inv X ((a, oe4) :: pins) _ H6 s6 := U6.pins_of fun p hp => (List.mem_cons.mp hp).elim (fun z => by rw [z]; exact pin6) fun z => U6.pin p (List.mem_append_right _ z)
        refine gone_ok J6 hN hi hln fun s7 J7 => ?_
        have a7 := (J7.pin (a, oe4) (List.mem_append_right _ List.mem_cons_self)).1
        have J8 : Inv X pins _ H6 s7 := J7.pins_of fun p hp => J7.pin p (List.mem_append_right _ (List.mem_cons_of_mem _ hp))
        exact ⟨_, _, Inv.track J8 na n0 nL nC nP (exV_ok a7 hz4 ⟨_, hd4⟩), hyes rfl J.len a na⟩
      | brk =>
        obtain ⟨_, _, _, z⟩ := hsp
        exact False.elim z
      | cont =>
        obtain ⟨_, _, _, z⟩ := hsp
        exact False.elim z
      | ret u =>
        obtain ⟨_, _, _, _, _, z⟩ := hsp
        exact False.elim z
    | false =>
      show wpAny _ X.A (handleBy (.ref a) X.env []) _ _ _
      refine wpAny_handleBy_nil ?_
      obtain ⟨k1, k2, k3, oe, vs, Tt, oT, tq, he, hz, hd, h1, hr⟩ := id fl3
      unfold PySem.passOn
      refine wpAny_bind (wpAny_field he hd h1 ?_)
      rw [if_neg (show ¬ ((Value.ref Tt == Value.none) = true) from by simp)]
      have fin : wpAny (model X.prog X.w) X.A (setFlight (.ref a) X.env.frame) (fun _ s4 => wpAny (model X.prog X.w) X.A (throw (.ref a) : Sem Flow) (SP X pins D) X.xe s4) X.xe { s' with heap := h3 } := by
        rw [hf]
        refine HandSPX.setFlight_upZ fl3 fun h4 hh4 up4 => wpAny_throw (tk _ _ ?_)
        exact ⟨a, B, sI, pins, σ', H', cls, d, rfl, J, nb, (up.trans up3).trans up4, .inr (.inr (by rw [hs]; exact hh4)), na, os, ag, hno rfl⟩
      first
        | exact wpAny_bind (wpAny_pure (wpAny_bind fin))
        | exact wpAny_bind fin
  · cases f with
    | next =>
      obtain ⟨σ', H', J', q⟩ := hsp
      exact wpAny_execs_nil ⟨σ', H', J'.ofTry ok, q⟩
    | brk =>
      obtain ⟨σ', H', J', q⟩ := hsp
      exact ⟨σ', H', J'.ofTry ok, q⟩
    | cont =>
      obtain ⟨σ', H', J', q⟩ := hsp
      exact ⟨σ', H', J'.ofTry ok, q⟩
    | ret u =>
      obtain ⟨v, σ', H', J', r, q⟩ := hsp
      exact ⟨v, σ', H', J'.ofTry ok, r, q⟩
end
end L3
namespace L3
open PySem PySem.Spec PySem.Calls PyProof.Rows PySem.W
section
variable {prog : Program} {w : World} {A : Around} {E : Value → Shared → Prop} {s : Shared} {K : Frag} {x D : Addr} {ox : Obj} {od : Option Obj}
/-- the class of an error that has its dict -/
theorem cls_exc {Q : Option Value → Shared → Prop} (C : L2.ExcC K D) (X : K.In s.heap) (I : InstAt s.heap x ox D od) (hf : findObj K D od "__class__" = some (.bind (.builtin "getset_descriptor.__get__") (.builtin "object.__class__")))
    (h : Q (some (.ref D)) { s with toks := s.toks + 1 }) : wpAny (model prog w) A (getAttr? (.ref x) "__class__") Q E s := by
  obtain ⟨hp, g, d, t, os⟩ := s
  have L0 := I.type (M := model prog w)
  have L1 := looks_findIn (M := model prog w) X C.hg
  have L2 := looks_findIn (M := model prog w) X C.hk
  have L4 := looks_find (M := model prog w) X I hf
  have sub : Looks (model prog w) hp (isInstance (.ref x) (.type "BaseException")) true := L0.andThen (looks_subIn X C.hs)
  have z0 : (false && onTheHeap (Value.builtin "BaseException.__getattribute__")) = false := rfl
  have z2 : (Value.builtin "BaseException.__getattribute__" == Value.builtin "object.__getattribute__") = false := by decide +kernel
  have z1 : (onTheHeap (Value.ref D) && Value.builtin "BaseException.__getattribute__" == Value.builtin "object.__getattribute__") = false := by rw [z2]; rfl
  unfold getAttr? getAttrBy? getAttrBy
  refine wpAny_bind (wpAny_mkText (wpAny_bind (wpAny_attempt (wpAny_holding (wpAny_bind (L0.at (wpAny_bind (L1.at ?_))))))))
  show wpAny _ _ (if (onTheHeap (Value.ref D) && Value.builtin "BaseException.__getattribute__" == Value.builtin "object.__getattribute__") = true then _ else _) _ _ _
  rw [z1, if_neg Bool.false_ne_true]
  unfold getAttrByItsOwn hookBefore
  refine wpAny_bind ?_
  rw [if_pos (show onTheHeap (Value.ref D) = true from rfl)]
  refine L2.at ?_
  refine wpAny_bind (wpAny_attempt (wpAny_holding ?_))
  unfold callGetattribute
  rw [z0, if_neg Bool.false_ne_true]
  unfold boundAndCalled
  rw [PySem.F.excAttr_ValueError.ga.bind (.ref x)]
  refine wpAny_bind (wpAny_pure ?_)
  show wpAny _ _ (call (.builtin "BaseException.__getattribute__") [.ref x, .str "__class__" t]) _ _ _
  refine wpAny_call (codeAny_call_builtin PySem.F.excAttr_ValueError.ga.plain PySem.F.entry_bexc_ga ?_)
  refine @check_slot (model prog w) _ _ ⟨hp, g, d, t + 1, os⟩ "BaseException.__getattribute__" "BaseException" "__getattribute__" (.ref x) [.str "__class__" t] [] _ (by decide +kernel) (by decide +kernel) sub (PySem.F.args_bexc_ga (.ref x) (.str "__class__" t)) ?_
  unfold Builtin.«object.__getattribute__»
  refine wpAny_bind (wpAny_of_eq (a := ((Value.ref x : Value), [Value.str "__class__" t])) (by first | rfl | (simp only [slotArgs]; rfl)) ?_)
  refine wpAny_bind (wpAny_pure (wpAny_bind (L0.at (wpAny_bind (L4.at ?_)))))
  show wpAny _ _ (holding [Value.builtin "object.__class__"] (call (.builtin "getset_descriptor.__get__") [.builtin "object.__class__", .ref x, .ref D]) >>= ret) _ _ _
  refine wpAny_bind (wpAny_holding (wpAny_call (class_get (s := ⟨hp, g, d, t + 1, os⟩) (ox := ox) (od := od) X I C.hm ?_)))
  refine wpAny_pure ?_
  show wpAny _ _ (handedOut (.ref D)) _ _ _
  rw [handedOut_of (v := .ref D) rfl]
  first
    | exact wpAny_pure (wpAny_pure h)
    | exact wpAny_pure h
    | exact wpAny_pure (wpAny_bind (wpAny_pure (wpAny_pure h)))
theorem kit_exc (C : L2.ExcC K D) : KitX K (.ref x) (.ref D) (fun h => ∃ ox o, InstAt h x ox D (some o)) where
  ty := fun _ _ _ ⟨_, _, I⟩ => I.type
  it := fun _ _ X _ => by
    obtain ⟨cdD, hcD, _⟩ := any_some C.hd
    unfold clsIn at hcD
    split at hcD
    · rename_i c' d' cd' sl' ho
      exact fun A' Q' E' s' k q => by
        unfold isType loadHead
        exact wpAny_bind (wpAny_loadPart (k _ _ (X _ _ ho)) (wpAny_pure q))
    · cases hcD
  ne := (handS_kitx_exc (x := x) (ox := default) C.hg C.hk C.hs C.hd C.ha C.hn C.ht C.hm).ne
  ca := fun X ⟨_, o, I⟩ k => cls_exc C X I (by
    obtain ⟨cd, hc, _⟩ := any_some C.hd
    unfold findObj
    rw [hc, Option.bind_some, C.ha, Option.bind_some]
    simp [C.hn, C.ht]) k
end
end L3
namespace L3
open PySem PySem.Spec PyProof.Rows L2
theorem exV_at {P : Program} {w : World} {H : Hp} {h : Heap} {a : Addr} {cls : Value} {d : Option Addr} (hok : HOk P w H h) (e : H a = some (ExV a cls d)) : ∃ oe, h.get? a = some oe ∧ Zc cls d oe ∧ ∃ vs, oe.data = .fields vs :=
  (show ObjOk P w H h a (ExV a cls d) from hok a _ e).1
theorem exV_inst {P : Program} {w : World} {H : Hp} {h : Heap} {a C d : Addr} {fs : List (Str × V)} (hok : HOk P w H h) (e : H a = some (ExV a (.ref C) (some d))) (ed : H d = some (.xd fs)) :
    ∃ oe od mA, PySem.W.InstAt h a oe C (some od) ∧ h.get? d = some od ∧ h.Ns1 d mA ∧ (∀ f, RelO (fs.lookup f) (mA f)) ∧ ∀ n, PySem.W.lookIn n od = some (mA n) := by
  obtain ⟨oe, e1, z, vs, e2⟩ := exV_at hok e
  obtain ⟨mA, hns, hr⟩ := (show ObjOk P w H h d (.xd fs) from hok d _ ed)
  obtain ⟨od, ho, hl⟩ := lookIn_ns hns
  exact ⟨oe, od, mA, ⟨e1, z.1, by unfold PySem.W.notCls; rw [e2] <;> rfl, by rw [z.2]; exact ho⟩, ho, hns, hr, hl⟩
/-- isinstance of a kept error -/
def rIsiX (K : PySem.W.Frag) : List V → Hp → VK → Prop := fun xs H Q => rIsiA K xs H Q ∨ ∃ (a C d : Addr) (c : V) (u : Value) (fs : List (Str × V)) (b : Bool), xs = [.ref a, c] ∧ ClsV c u ∧ H a = some (ExV a (.ref C) (some d)) ∧ H d = some (.xd fs) ∧ ExcC K C ∧ PySem.W.kitOne K (.ref C) u = some b ∧ Q (.bl b) H
theorem callIsiX {X : Cx} : CallR X (.builtin "isinstance") (rIsiX X.K) := by
  intro pins s σ H xs us Q I r h
  rcases h with h | ⟨a, C, d, c, u, fs, b, rfl, k, ea, ed, T, e, q⟩
  · exact callIsi pins s σ H xs us Q I r h
  · obtain ⟨u1, u2, rfl, r1, r2⟩ := vals2 r
    have e2 := k.eq r2
    subst e2
    cases (show u1 = Value.ref a from r1)
    obtain ⟨oe, od, mA, J, _⟩ := exV_inst I.hok ea ed
    exact PySem.W.kia_one (kit_exc T) I.kIn ⟨oe, od, J⟩ e (fun z => nomatch z) fun tk => ⟨.bl b, H, I.tok tk, rfl, q⟩
/-- a field of a kept error -/
def tXfV (K : PySem.W.Frag) (n : Str) (te : TE) : TE := fun σ H Q => te σ H fun x H1 => ∃ (a C d : Addr) (fs : List (Str × V)) (v : V), x = .ref a ∧ H1 a = some (ExV a (.ref C) (some d)) ∧ H1 d = some (.xd fs) ∧ XfC K C ∧ PySem.W.findIn K (.ref C) n = some none ∧ fs.lookup n = some v ∧ Q v H1
theorem pe_xfV {X : Cx} {e : Expr} {te : TE} {pos : Pos} {n : Str} (he : PE X e te) (hb : attributeBase e n X.env (eval e X.env) = eval e X.env := by rfl) : PE X (.Attribute e n pos) (tXfV X.K n te) := by
  refine ⟨fun pins s σ H Q I h => ?_⟩
  refine attr_of hb (thn (he.run pins s σ H _ I h) fun u s1 hh => ?_)
  obtain ⟨x, H1, I1, rx, a, C, d, fs, v, rfl, ea, ed, T, hno, l, q⟩ := hh
  obtain rfl : u = Value.ref a := rx
  obtain ⟨oe, od, mA, J, _, _, hr, hl⟩ := exV_inst I1.hok ea ed
  obtain ⟨u, hu, ru⟩ := RelO.some_of (v := v) (o := mA n) (by rw [← l]; exact hr n)
  exact HandSPX.exc_get I1.kIn J T.ga T.gg T.exC (PySem.W.findObj_own T.hdC hno rfl (by rw [hl, hu])) (handed_of ru) ⟨v, H1, I1.tok _, ru, q⟩
end L3
end
section
namespace L3
open PySem PySem.Spec PySem.Calls PyProof.Rows PySem.W
end L3
namespace L3
open PySem PySem.Spec PySem.Calls PyProof.Rows PySem.W
end L3
end
section
namespace L3
open PySem PySem.Spec PyProof.Rows L2
section
variable {X : Cx} {CX : CXT} {k : Nat} {C f g : Addr} {fd fd' : FuncData} {ps : List Str} {sp : Sp} {E : XK} {op : Operator}
theorem rel_back {Q : Value → Shared → Prop} {v : V} {u : Value} {s : Shared} (r : RelV v u) (h : Q u s) : PySem.W.CmpBack Q u s := by
  cases u <;> first | exact h | skip
  all_goals (cases v <;> first | (exact False.elim r) | (obtain ⟨_, z⟩ := r; cases z; done) | (obtain ⟨z, _⟩ := r; cases z; done) | (cases r; done))
theorem ins_inst {P : Program} {w : World} {H : Hp} {h : Heap} {a C dx : Addr} {fs : List (Str × V)} (hok : HOk P w H h) (e : H a = some (.ins C dx fs)) : ∃ od, PySem.W.InstAt h a (PySem.W.instObj C dx) C (some od) := by
  obtain ⟨h1, _, h3, h4, mA, hns, _⟩ := (show ObjOk P w H h a (.ins C dx fs) from hok a _ e)
  obtain ⟨od, ho, _⟩ := lookIn_ns hns
  exact ⟨od, h4, rfl, rfl, ho⟩
/-- an operator of two values, its number part -/
def OpR1 (X : Cx) (op : Operator) (r : R2) : Prop := ∀ (pins : List (Addr × Obj)) (s : Shared) (σ : L2.St) (H : Hp) (x y : V) (v u : Value) (Q : VK), Inv X pins σ H s → RelV x v → RelV y u → r x y H Q →
  wpAny (model X.prog X.w) X.A (binaryOp1 op.info.2 v u) (fun r s' => ∃ z, r = some z ∧ EP X pins σ Q z s') X.xe s
theorem OpR1.or {r r' : R2} (h : OpR1 X op r) (h' : OpR1 X op r') : OpR1 X op (fun x y H Q => r x y H Q ∨ r' x y H Q) := fun pins s σ H x y v u Q I rx ry q => q.elim (h pins s σ H x y v u Q I rx ry) (h' pins s σ H x y v u Q I rx ry)
end
end L3
namespace L3
open PySem PySem.Spec PySem.Calls PyProof.Rows PySem.W
end L3
namespace L3
open PySem PySem.Spec PyProof.Rows L2
end L3
namespace L3
open PySem PySem.Spec PyProof.Rows L2
end L3
end
section
namespace L3
open PySem PySem.Spec PyProof.Rows L2 LamX
section
variable {P : Program} {w : World} {K : PySem.W.Frag} {mg : Str → Option Value} {base : Heap} {CX : CXT} {x qual : Str} {f : Addr} {fd : FuncData} {N ps : List Str} {k : Nat} {sp : Sp}
theorem funO {st : Stmt} (F : L2.Fun K x qual st f fd) (S : FnScope N ps (defScope st)) (len : ∀ vs H Q E, sp vs H Q E → vs.length = ps.length)
    (body : ∀ (cd : Value) (A : Around) (fr : List Env) (s : Shared) (H : Hp) (vs : List V) (Q : VK) (E : XK), Room k (A.deeper (envOfC qual (defScope st) s.heap.objs.size f cd)) → sp vs H Q E →
      ∃ t, PSs (cxOf CX P w K mg base N qual (defScope st) f cd A fr s H E) (defBody st) t ∧ t { nx := fun _ H' => Q .non H', rt := Q } (L2.start N vs) H) :
    FnOk P w K mg base CX (k + 1) f fd ps sp := by
  obtain ⟨oc, od, kV, doc, pm, an, cd, ct, sl, rfl, lk, hcd⟩ := F.ex
  exact ⟨len, fun A fr s H as us vs Q E hr e0 hb r h => LamX.run_ofS lk hcd S hr e0 hb r (len _ _ _ _ h) fun hr' => body cd A fr s H vs Q E hr' h⟩
/-- a def of the module, called by its name -/
structure FnO (P : Program) (w : World) (K : PySem.W.Frag) (mg : Str → Option Value) (base : Heap) (CX : CXT) (k : Nat) (x : Str) (ps : List Str) (sp : Sp) : Prop where
  ex : ∃ (f : Addr) (fd : FuncData), FnOk P w K mg base CX k f fd ps sp ∧ mg x = some (.ref f) ∧ PySem.W.keepIn K (.ref f) = true ∧ L2.Binds K fd ps []
end
section
variable {X : Cx} {CX : CXT} {k : Nat} {ps : List Str} {sp : Sp} {E : XK} {x : Str} {p pos : Pos} {e : Expr} {es : List Expr} {t : TA}
theorem pe_o {j : Nat} (c : FnO X.prog X.w X.K X.mg X.base CX k x ps sp) (hr : Room j X.A) (hx : Passes CX X E) (ha : PA X (e :: es) t) (hk : k ≤ j := by decide) (gl : Gl X x := by rfl)
    (hdb : (x == ("__debug__" : Str)) = false := by decide) (he : starEach (e :: es) X.env = (false, eval e X.env) :: starEach es X.env := by rfl) (hpl : (backTo pos (starEach es X.env)).any (·.1) = false := by rfl) :
    PE X (.Call (.Name x p) (e :: es) [] pos) (tCall sp [] E t) := by
  obtain ⟨f, fd, F, m, kp, b⟩ := c.ex
  exact pe_call F (hr.mono hk) gl m kp b .nil hx ha hdb he hpl
/-- nothing leaves -/
theorem passF : Passes (L2.CX X.prog X.w) X (fun _ _ _ => False) := fun _ _ _ _ _ _ _ ⟨_, _, _, _, _, _, _, _, _, _, _, _, z⟩ => z.elim
theorem passT {W : WX} (tk : Takes X W) (hW : ∀ cls d σ H, E cls d H → W cls d σ H) : Passes (L2.CX X.prog X.w) X E := passes_call tk hW
end
structure Er1 (P : Program) (w : World) (K : PySem.W.Frag) (mg : Str → Option Value) (base : Heap) (x : Str) (C : Addr) (g : Str) : Prop where
  oex : OexC K C
  m : mg x = some (.ref C)
  ex : ∃ (f : Addr) (fd : FuncData) (y : Str), PySem.W.findIn K (.ref C) "__init__" = some (some (.ref f)) ∧ PySem.W.typeIn K (.ref f) = some (.type "function") ∧ FnOk P w K mg base CX0 1 f fd ["self", y] (spErr1 C g) ∧ L2.Binds K fd ["self", y] []
def Rz (C : Addr) (g : Str) (v : V) (H : Hp) (E : XK) : Prop := ∀ d H', H d = none → Ex H H' → H' d = some (.xd [(g, v)]) → E (.ref C) (some d) H'
def rMk1 (C : Addr) (g : Str) (vs : List V) (H1 : Hp) (E : XK) : Prop := vs.length ≤ 1000 ∧ ∀ a, H1 a = none → spErr1 C g (.ref a :: (vs ++ [])) (upd H1 a (exo a C none))
  (fun v H2 => v = .non ∧ ∃ (d : Addr) (fs : List (Str × V)), H2 a = some (exo a C (some d)) ∧ H2 d = some (exd d fs) ∧ H1 d = none ∧ E (.ref C) (some d) (upd (del H2 a) d (.xd fs))) (fun _ _ _ => False)
def tRaise1 (C : Addr) (g : Str) (te : TE) (W : WX) : TS := fun _ σ H => te σ H fun v H1 => rMk1 C g [v] H1 (fun cls d H' => W cls d σ H')
theorem ps_raise1 {X : Cx} {W : WX} {x g : Str} {C : Addr} {j : Nat} {e : Expr} {te : TE} {p p1 pos : Pos} (c : Er1 X.prog X.w X.K X.mg X.base x C g) (hr : Room j X.A) (hc : X.calm = true) (tk : Takes X W) (ha : PA X [e] (tCons te tNil)) (hk : 2 ≤ j := by decide) (gl : Gl X x := by rfl)
    (hdb : (x == ("__debug__" : Str)) = false := by decide) (hst : starEach [e] X.env = (false, eval e X.env) :: starEach [] X.env := by rfl) :
    PS X (.Raise (some (.Call (.Name x p) [e] [] p1)) none pos) (tRaise1 C g te W) := by
  obtain ⟨f, fd, y, i1, i2, F, b⟩ := c.ex
  exact ps_raise (pos := pos) hc tk (pmk_oex (p := p) (pos := p1) c.oex i1 i2 F (hr.mono hk) b .nil pass0 gl c.m ha hdb hst)
theorem s_raise1 {C : Addr} {g : Str} {te : TE} {W : WX} {D : Ends} {σ : L2.St} {H : Hp} (h : te σ H fun v H1 => rMk1 C g [v] H1 (fun cls d H' => W cls d σ H')) : tRaise1 C g te W D σ H := h
theorem s_rz {C : Addr} {g : Str} {v : V} {H : Hp} {E : XK} (h : Rz C g v H E) : rMk1 C g [v] H E := by
  refine ⟨(show 1 ≤ 1000 by decide), fun a ha => ⟨a, v, rfl, upd_same, fun dx h1 h2 => ⟨rfl, dx, _, upd_same, ?_, ?_, h dx _ ?_ ?_ upd_same⟩⟩⟩
  · rw [upd_ne h2, upd_same]
  · rw [upd_ne h2] at h1; exact h1
  · rw [upd_ne h2] at h1; exact h1
  · intro b o e
    have n1 : b ≠ a := ne_of_none e ha
    have n2 : b ≠ dx := by
      rw [upd_ne h2] at h1
      exact ne_of_none e h1
    rw [upd_ne n2, del_ne n1, upd_ne n1, upd_ne n2, upd_ne n1]
    exact e
end L3
end
section
namespace L3
open PySem PySem.Spec PyProof.Rows L2 LamX
inductive Od (H : Hp) : V → Str → Prop
  | non : Od H .non (PyData.shown .none)
  | bl (b : Bool) : Od H (.bl b) (PyData.shown (.bool b))
  | str (z : Str) : z.length ≤ 100 → (PyData.str z).shown.length ≤ 1001 → Od H (.str z) (PyData.str z).shown
  | tup {p : Addr} {xs : List V} : H p = some (.tup xs) → xs.all fitF = true → (PyData.tuple (xs.map flatD)).shown.length ≤ 1000 → Od H (.ref p) (PyData.tuple (xs.map flatD)).shown
  | lst {p : Addr} {xs : List V} : H p = some (.lst xs) → xs.all fitF = true → xs.length ≤ 1000 → Od H (.ref p) (PyData.list (xs.map flatD)).shown
  | dic {p : Addr} : H p = some (.dK []) → Od H (.ref p) (PyData.dict []).shown
theorem Od.ex {H H' : Hp} {v : V} {t : Str} (h : Od H v t) (e : Ex H H') : Od H' v t := by
  cases h with
  | non => exact .non
  | bl b => exact .bl b
  | str z h1 h3 => exact .str z h1 h3
  | tup h1 h2 h3 => exact .tup (e _ _ h1) h2 h3
  | lst h1 h2 h3 => exact .lst (e _ _ h1) h2 h3
  | dic h1 => exact .dic (e _ _ h1)
abbrev odTys : List String := ["NoneType", "bool", "str", "tuple", "list", "dict"]
theorem Od.ty {K : PySem.W.Frag} {H : Hp} {v : V} {t : Str} (h : Od H v t) : (∃ b, v = .bl b) ∨ ∃ T, TyX K H v (.type T) ∧ T ∈ ["NoneType", "str", "tuple", "list", "dict"] := by
  cases h with
  | non => exact .inr ⟨_, .base .non, by simp⟩
  | bl b => exact .inl ⟨b, rfl⟩
  | str z _ _ => exact .inr ⟨_, .base (.str z), by simp⟩
  | tup h1 _ _ => exact .inr ⟨_, .base (.tup h1), by simp⟩
  | lst h1 _ _ => exact .inr ⟨_, .base (.lst h1), by simp⟩
  | dic h1 => exact .inr ⟨_, .base (.dK h1), by simp⟩
theorem Od.tyAll {K : PySem.W.Frag} {H : Hp} {v : V} {t : Str} (h : Od H v t) : ∃ T, TyX K H v (.type T) ∧ T ∈ odTys := by
  rcases h.ty (K := K) with ⟨b, rfl⟩ | ⟨T, h1, h2⟩
  · exact ⟨_, .base (.bl b), by simp⟩
  · exact ⟨T, h1, by simp only [List.mem_cons] at h2 ⊢; rcases h2 with h | h | h | h | h | h <;> simp_all⟩
theorem Od.noInt {K : PySem.W.Frag} {H : Hp} {v : V} {t : Str} (h : Od H v t) : (∃ b, v = .bl b) ∨ ∃ ty, TyA K H v ty ∧ PySem.W.kitOne K ty (.type "int") = some false := by
  rcases h.ty (K := K) with ⟨b, rfl⟩ | ⟨T, h1, h2⟩
  · exact .inl ⟨b, rfl⟩
  · refine .inr ⟨_, .x h1, ?_⟩
    simp only [List.mem_cons, List.not_mem_nil, or_false] at h2
    rcases h2 with rfl | rfl | rfl | rfl | rfl <;> exact kit_ty (by decide +kernel)
def rReprE : List V → Hp → VK → Prop := fun xs H Q => ∃ a, xs = [.ref a] ∧ ((H a = some (.dK []) ∧ Q (.str (PyData.dict []).shown) H) ∨ (H a = some (.dK [(.inl 1, .int 2)]) ∧ Q (.str (PyData.dict [(.int 1, .int 2)]).shown) H))
theorem call_reprE {X : Cx} (hg : X.A.guards = some []) (hu : X.A.units + 64 < cLine) : CallR X (.builtin "repr") rReprE := by
  intro pins s σ H xs us Q I r h
  obtain ⟨a, rfl, hc⟩ := h
  obtain ⟨u, rfl, rx⟩ := vals1 r
  cases (show u = Value.ref a from rx)
  rcases hc with ⟨ha, q⟩ | ⟨ha, q⟩
  · obtain ⟨_, hs, vs, kv, hd⟩ := (show ObjOk X.prog X.w H s.heap a (.dK []) from I.hok a _ ha)
    cases kv
    obtain ⟨o, es, ep, e1, ⟨e2, _⟩, e3, _, e4, _⟩ := hd
    have e5 : es.toList = [] := by
      generalize es.toList = l at e4
      cases l with
      | nil => rfl
      | cons a b => cases e4
    have rd : Reads s.heap (.ref a) (.dict []) [a] := .dict (as := []) (bs := []) e1 e2 e3 (by rw [e5]; exact .nil) (by rw [e5]; exact .nil)
    refine repr_of_reads' rd (by decide +kernel) (fun _ z => ?_) hg (by show X.A.units + (1 + 1) < cLine; omega) (fun _ _ e => e) (fun h' t tk k => ?_) (by decide +kernel)
    · cases (List.mem_singleton.mp z)
      simp at hs
    · exact ⟨.str _, H, I.kept k, ⟨t, rfl⟩, q⟩
  · obtain ⟨_, hs, vs, kv, hd⟩ := (show ObjOk X.prog X.w H s.heap a (.dK [(.inl 1, .int 2)]) from I.hok a _ ha)
    obtain ⟨o, es, ep, e1, ⟨e2, _⟩, e3, _, e4, _⟩ := hd
    obtain ⟨k0, v0, rfl, hk0, rv⟩ : ∃ k0 v0, vs = [(k0, v0)] ∧ k0 = .inl 1 ∧ L2.RelV (.int 2) v0 := by
      cases kv with
      | cons rv kv' => cases kv'; exact ⟨_, _, rfl, rv.1.symm, rv.2⟩
    subst hk0
    obtain ⟨e0, he, hk, hv⟩ : ∃ e0 : DictEntry, es.toList = [e0] ∧ (mixKind X.prog X.w).is (.inl 1) e0.key = true ∧ e0.val = v0 := by
      generalize es.toList = l at e4
      cases l with
      | nil => cases e4
      | cons e l =>
        generalize hz : [((Sum.inl 1 : Key), v0)] = z at e4
        cases e4 with
        | cons h1 h2 h3 =>
          cases hz
          cases h3
          exact ⟨e, rfl, h1, h2⟩
    obtain ⟨t1, hk'⟩ : ∃ t1, e0.key = .int 1 t1 := by
      generalize e0.key = kk at hk
      change keyIs (.inl 1) kk = true at hk
      cases kk
      case int i t =>
        have : i = 1 := by first | exact of_decide_eq_true hk | (simp [keyIs] at hk; omega)
        exact ⟨t, by rw [this]⟩
      all_goals exact Bool.noConfusion hk
    obtain ⟨t2, rfl⟩ := rv
    have rd : Reads s.heap (.ref a) (.dict [(.int 1, .int 2)]) [a] := .dict (as := []) (bs := []) e1 e2 e3 (by rw [he]; show ReadsAll _ [e0.key] [.int 1] []; rw [hk']; exact .cons (.int 1 t1) .nil) (by rw [he]; show ReadsAll _ [e0.val] [.int 2] []; rw [hv]; exact .cons (.int 2 t2) .nil)
    refine repr_of_reads' rd (by decide +kernel) (fun _ z => ?_) hg (by show X.A.units + (1 + 1) < cLine; omega) (fun _ _ e => e) (fun h' t tk k => ?_) (by decide +kernel)
    · cases (List.mem_singleton.mp z)
      simp at hs
    · exact ⟨.str _, H, I.kept k, ⟨t, rfl⟩, q⟩
def rReprU (K : PySem.W.Frag) : List V → Hp → VK → Prop := fun xs H Q => rRepr K xs H Q ∨ rReprE xs H Q
theorem callReprU {X : Cx} {K : PySem.W.Frag} (hK : X.K = K) (hg : X.A.guards = some []) (hu : X.A.units + 64 < cLine) : CallR X (.builtin "repr") (rReprU K) := by
  subst hK
  exact CallR.or (call_reprD hg hu) (call_reprE hg hu)
theorem s_reprT {K : PySem.W.Frag} {H : Hp} {Q : VK} {p : Addr} {xs : List V} (hp : H p = some (.tup xs)) (hf : xs.all fitF = true) (hn : (PyData.tuple (xs.map flatD)).shown.length ≤ 1000) (h : Q (.str (PyData.tuple (xs.map flatD)).shown) H) : rRepr K [.ref p] H Q := by
  obtain ⟨h1, h2, h3, h4, h5⟩ := fit_list (K := K) (H := H) xs hf
  exact s_repr (.tup (.inl (.inl hp)) h5) h3 (by show _ + 1 ≤ _; omega) (Nat.le_trans hn (by decide +kernel)) h
theorem Od.repr {K : PySem.W.Frag} {H : Hp} {Q : VK} {v : V} {t : Str} (h : Od H v t) (q : Q (.str t) H) : rReprU K [v] H Q := by
  cases h with
  | non => exact .inl ⟨_, .none, rfl, .non, by decide +kernel, by decide +kernel, by decide +kernel, q⟩
  | bl b => exact .inl ⟨_, .bool b, rfl, .bl b, by cases b <;> decide +kernel, by cases b <;> decide +kernel, by cases b <;> decide +kernel, q⟩
  | str z h1 h3 => exact .inl ⟨_, .str z, rfl, .str z, rfl, Nat.zero_le _, Nat.le_trans h3 (by decide +kernel), q⟩
  | tup h1 h2 h3 => exact .inl (s_reprT h1 h2 h3 q)
  | lst h1 h2 h3 => exact .inl (s_reprF h1 h2 h3 q)
  | dic h1 => exact .inr ⟨_, rfl, .inl ⟨h1, q⟩⟩
end L3
end
section
namespace L3
open PySem PySem.Spec PyProof.Rows L2 LamX
def flds (o u : Int) : List (Str × V) := putF "under" (.int u) (putF "over" (.int o) [])
def Rt (C : Addr) (H : Hp) (p : Addr) (o u : Int) : Prop := ∃ dx, H p = some (.ins C dx (flds o u))
/-- a number: a fraction or an int -/
def Nm (C : Addr) (H : Hp) (y : V) (o u : Int) : Prop := (∃ q, y = .ref q ∧ Rt C H q o u) ∨ (y = .int o ∧ u = 1)
theorem ins_tbl {C dx : Addr} {fs : List (Str × V)} : ∀ ps, HO.ins C dx fs ≠ .tbl ps := fun _ z => nomatch z
theorem Rt.exN {C : Addr} {H H' : Hp} {p : Addr} {o u : Int} (h : Rt C H p o u) (e : ExtN H H') : Rt C H' p o u := by
  obtain ⟨dx, h⟩ := h
  exact ⟨dx, e _ _ h ins_tbl⟩
theorem Ex.n {H H' : Hp} (e : Ex H H') : ExtN H H' := fun b o h _ => e b o h
theorem Rt.ex {C : Addr} {H H' : Hp} {p : Addr} {o u : Int} (h : Rt C H p o u) (e : Ex H H') : Rt C H' p o u := h.exN e.n
theorem Nm.exN {C : Addr} {H H' : Hp} {y : V} {o u : Int} (h : Nm C H y o u) (e : ExtN H H') : Nm C H' y o u := by
  rcases h with ⟨q, rfl, h⟩ | h
  · exact .inl ⟨q, rfl, h.exN e⟩
  · exact .inr h
theorem Nm.ex {C : Addr} {H H' : Hp} {y : V} {o u : Int} (h : Nm C H y o u) (e : Ex H H') : Nm C H' y o u := h.exN e.n
theorem Od.exN {H H' : Hp} {v : V} {t : Str} (h : Od H v t) (e : ExtN H H') : Od H' v t := by
  cases h with
  | non => exact .non
  | bl b => exact .bl b
  | str z h1 h3 => exact .str z h1 h3
  | tup h1 h2 h3 => exact .tup (e _ _ h1 fun _ z => nomatch z) h2 h3
  | lst h1 h2 h3 => exact .lst (e _ _ h1 fun _ z => nomatch z) h2 h3
  | dic h1 => exact .dic (e _ _ h1 fun _ z => nomatch z)
/-- within bounds -/
structure Bd (o u : Int) : Prop where
  ho : o.natAbs < 2 ^ 1000
  hu : u.natAbs < 2 ^ 1000
  pos : 0 < u
theorem Bd.ne {o u : Int} (b : Bd o u) : u ≠ 0 := by have := b.pos; omega
abbrev numTys : List String := ["int", "NoneType", "bool", "str", "tuple", "list", "dict"]
def OthV (C : Addr) (y : V) (H : Hp) : Prop := (∃ b dx fs, y = .ref b ∧ H b = some (.ins C dx fs)) ∨ (∃ i, y = .int i) ∨ ∃ t, Od H y t
/-- own first -/
def rOwn (C : Addr) (sp : Sp) (E : XK) : R2 := fun x y H Q => ∃ a dx fs, x = .ref a ∧ H a = some (.ins C dx fs) ∧ OthV C y H ∧ sp [x, y] H Q E
end L3
end
section
namespace L3
open PySem PySem.Spec PyProof.Rows L2 LamX
namespace KX
variable {X : Cx} {K : PySem.W.Frag} (hK : X.K = K)
include hK
theorem isiX : CallR X (.builtin "isinstance") (rIsiX K) := by subst hK; exact callIsiX
theorem xfV {e : Expr} {te : TE} {pos : Pos} {n : Str} (he : PE X e te) (hb : attributeBase e n X.env (eval e X.env) = eval e X.env) : PE X (.Attribute e n pos) (tXfV K n te) := by subst hK; exact pe_xfV he hb
theorem tup {es : List Expr} {k : Nat} {t : TGs} {n : Nat} {pos : Pos} (hc : X.calm = true) (h : PGs X es t)
    (hn : (assignEach es X.env).length = n := by rfl) (hst : (assignEach es X.env).findIdx? (·.1) = none := by rfl) : PG X (.Tuple es k pos) (gTup K n t) := by subst hK; exact pg_tup hc h hn hst
end KX
section
variable {K : PySem.W.Frag} {σ : L2.St} {H : Hp} {Q : VK} {D : Ends} {C : Addr} {o u : Int} {te ta : TE}
theorem s_par3 {i j l : Nat} {tt : TA} (h : tt σ H fun vs H1 => ∃ u v w, vs = [u, v, w] ∧ D.nx (((σ.set i (some u)).set j (some v)).set l (some w)) H1) : tPar3 i j l tt D σ H := h
theorem s_trip {R : V → V → V → Prop} {x y z : V} (h : R x y z) : ∃ u v w, [x, y, z] = [u, v, w] ∧ R u v w := ⟨x, y, z, rfl, h⟩
theorem s_aug {i : Nat} {ti : TIp} {x : V} (e : σ[i]? = some (some x)) (h : te σ H fun y H1 => ti x y H1 fun z H2 => D.nx (σ.set i (some z)) H2) : tAug i te ti D σ H := ⟨x, e, h⟩
theorem s_asgT' {n : Nat} {tg : TGs} (h : te σ H fun x H1 => gTup K n tg x σ H1 D.nx) : tAsg te (gTup K n tg) D σ H := h
theorem s_gT {a : Addr} {xs : List V} {n : Nat} {tg : TGs} {R : L2.St → Hp → Prop} (e : H a = some (.tup xs)) (hn : xs.length = n) (h : tg xs σ H R) : gTup K n tg (.ref a) σ H R := ⟨a, xs, rfl, .inl (.inl e), hn, h⟩
theorem s_gC {i : Nat} {v : V} {r : List V} {tg : TGs} {R : L2.St → Hp → Prop} (h : tg r (σ.set i (some v)) H R) : gCons (gName i) tg (v :: r) σ H R := ⟨v, r, rfl, h⟩
theorem s_gN {R : L2.St → Hp → Prop} (h : R σ H) : gNil [] σ H R := ⟨rfl, h⟩
theorem s_fldG {f : Str} (h : ta σ H fun x H1 => ∃ a C dx fs v, x = .ref a ∧ H1 a = some (.ins C dx fs) ∧ Cls K C ∧ NoAttr K C f ∧ fs.lookup f = some v ∧ Q v H1) : tFld K ta f σ H Q := h
theorem s_xfV {n : Str} (h : te σ H fun x H1 => ∃ (a C d : Addr) (fs : List (Str × V)) (v : V), x = .ref a ∧ H1 a = some (ExV a (.ref C) (some d)) ∧ H1 d = some (.xd fs) ∧ XfC K C ∧ PySem.W.findIn K (.ref C) n = some none ∧ fs.lookup n = some v ∧ Q v H1) : tXfV K n te σ H Q := h
/-- a def's data stay -/
theorem Dp.exN {H' : Hp} (e : ExtN H H') : ∀ (d : PyData) (v : V), (∀ a xs, SqL K H a xs → SqL K H' a xs) → (∀ a xs, SqT K H a xs → SqT K H' a xs) → Dp K H v d → Dp K H' v d := by
  intro d v h1 h2 h
  induction h using Dp.rec (motive_2 := fun vs ds _ => DpAll K H' vs ds) with
  | non => exact .non
  | bl b => exact .bl b
  | int i => exact .int i
  | str z => exact .str z
  | lst a _ b => exact .lst (h1 _ _ a) b
  | tup a _ b => exact .tup (h2 _ _ a) b
  | nil => exact .nil
  | cons _ _ a b => exact .cons a b
theorem penO_tbl {a c : Addr} {n : Nat} : ∀ ps, PenO a c n ≠ .tbl ps := fun _ z => by unfold PenO at z; cases z
theorem scO_tbl {c : Addr} {ns : List Int} : ∀ ps, ScO c ns ≠ .tbl ps := fun _ z => by unfold ScO at z; cases z
theorem Pen.exN {H' : Hp} {a : Addr} {n : Nat} (p : Pen H a n) (e : ExtN H H') : Pen H' a n := by
  obtain ⟨c, ns, h1, h2, h3⟩ := p
  exact ⟨c, ns, e _ _ h1 penO_tbl, e _ _ h2 scO_tbl, h3⟩
theorem Pen.ex {H' : Hp} {a : Addr} {n : Nat} (p : Pen H a n) (e : Ex H H') : Pen H' a n := Pen.exN p e.n
theorem Pen.at {a : Addr} {n : Nat} (p : Pen H a n) : ∃ c, H a = some (PenO a c n) := by
  obtain ⟨c, ns, h1, _⟩ := p
  exact ⟨c, h1⟩
theorem Wo.exN {T : List (Addr × Str)} {H' : Hp} {a : Addr} {n : Nat} (w : Wo T H a n) (e : ExtN H H') (t : Tabs T H') : Wo T H' a n := ⟨Pen.exN w.pen e, t⟩
/-- a tuple of two ints -/
def Pr (H : Hp) (v : V) (a b : Int) : Prop := ∃ p, v = .ref p ∧ H p = some (.tup [.int a, .int b])
theorem Pr.exN {H' : Hp} {v : V} {a b : Int} (h : Pr H v a b) (e : ExtN H H') : Pr H' v a b := by
  obtain ⟨p, rfl, h⟩ := h
  exact ⟨p, rfl, e _ _ h fun _ z => nomatch z⟩
theorem Pr.ex {H' : Hp} {v : V} {a b : Int} (h : Pr H v a b) (e : Ex H H') : Pr H' v a b := h.exN e.n
theorem Pr.dp {v : V} {a b : Int} (h : Pr H v a b) : Dp K H v (.tuple [.int a, .int b]) := by
  obtain ⟨p, rfl, h⟩ := h
  exact .tup (.inl (.inl h)) (.cons (.int a) (.cons (.int b) .nil))
end
end L3
end
section
namespace L3
open PySem PySem.Spec PyProof.Rows L2 LamX
section
variable {K : PySem.W.Frag} {σ : L2.St} {H H' : Hp} {Q : VK} {C CB : Addr}
inductive Prs (H : Hp) : List V → List (Int × Int) → Prop
  | nil : Prs H [] []
  | cons {v : V} {vs : List V} {q : Int × Int} {qs : List (Int × Int)} : Pr H v q.1 q.2 → Prs H vs qs → Prs H (v :: vs) (q :: qs)
theorem Prs.exN {vs : List V} {qs : List (Int × Int)} (h : Prs H vs qs) (e : ExtN H H') : Prs H' vs qs := by
  induction h with
  | nil => exact .nil
  | cons a _ b => exact .cons (a.exN e) b
theorem Prs.ex {vs : List V} {qs : List (Int × Int)} (h : Prs H vs qs) (e : Ex H H') : Prs H' vs qs := h.exN e.n
theorem Pr.up {v : V} {a b : Int} {D : Addr} {xs zs : List V} (h : Pr H v a b) (hd : H D = some (.lst xs)) : Pr (upd H D (.lst zs)) v a b := by
  obtain ⟨p, rfl, h⟩ := h
  refine ⟨p, rfl, ?_⟩
  rw [upd_ne (ne_of h hd (by intro z; cases z))]
  exact h
theorem Prs.up {vs : List V} {qs : List (Int × Int)} {D : Addr} {xs zs : List V} (h : Prs H vs qs) (hd : H D = some (.lst xs)) : Prs (upd H D (.lst zs)) vs qs := by
  induction h with
  | nil => exact .nil
  | cons a _ b => exact .cons (a.up hd) b
theorem Prs.get {vs : List V} {qs : List (Int × Int)} (h : Prs H vs qs) : ∀ {i : Nat} {x : V}, vs[i]? = some x → ∃ q, qs[i]? = some q ∧ Pr H x q.1 q.2 := by
  induction h with
  | nil => intro i x e; simp at e
  | cons a _ b =>
    intro i x e
    cases i with
    | zero => cases e; exact ⟨_, rfl, a⟩
    | succ i => exact b (by simpa using e)
theorem Prs.length {vs : List V} {qs : List (Int × Int)} (h : Prs H vs qs) : vs.length = qs.length := by
  induction h with
  | nil => rfl
  | cons _ _ b => simp [b]
theorem Prs.snoc {vs : List V} {qs : List (Int × Int)} {v : V} {q : Int × Int} (h : Prs H vs qs) (a : Pr H v q.1 q.2) : Prs H (vs ++ [v]) (qs ++ [q]) := by
  induction h with
  | nil => exact .cons a .nil
  | cons b _ c => exact .cons b c
def prD (qs : List (Int × Int)) : List PyData := qs.map fun q => .tuple [.int q.1, .int q.2]
theorem Prs.dp {vs : List V} {qs : List (Int × Int)} (h : Prs H vs qs) : DpAll K H vs (prD qs) := by
  induction h with
  | nil => exact .nil
  | cons a _ b => exact .cons a.dp b
theorem s_lcL {te ta : TE} {g : TG} {tt : TT} {vs : List Nat} (h : ta σ H fun x H1 => ∃ a, x = .ref a ∧ (∃ xs, SqL K H1 a xs) ∧ LC (Itl K a) g tt te vs σ H1 Q) : tLc (iList K ta) g tt te vs σ H Q := h
/-- so far heard: the list l of equal pairs; the fraction m, the other value v with its text tx; the pen -/
structure Sx (Tt : List (Addr × Str)) (C l m p : Addr) (n : Nat) (o u : Int) (v : V) (tx : Str) (H : Hp) (xs : List V) : Prop where
  lst : H l = some (.lst xs)
  els : ∀ x ∈ xs, ∃ r, x = .ref r ∧ H r = some (.tup [.str "ratio", .str tx])
  rt : Rt C H m o u
  od : Od H v tx
  ne : v ≠ .ref l
  wo : Wo Tt H p n
  few : xs.length ≤ 1000
theorem Sx.exN {Tt : List (Addr × Str)} {l m p : Addr} {n : Nat} {o u : Int} {v : V} {tx : Str} {xs : List V} (S : Sx Tt C l m p n o u v tx H xs) (e : ExtN H H') (t : Tabs Tt H') : Sx Tt C l m p n o u v tx H' xs := by
  refine ⟨e _ _ S.lst (fun _ z => nomatch z), fun x hx => ?_, S.rt.exN e, S.od.exN e, S.ne, S.wo.exN e t, S.few⟩
  obtain ⟨r, h1, h2⟩ := S.els x hx
  exact ⟨r, h1, e _ _ h2 fun _ z => nomatch z⟩
theorem Od.up {v : V} {tx : Str} {l : Addr} {o : HO} (h : Od H v tx) (hn : v ≠ .ref l) : Od (upd H l o) v tx := by
  cases h with
  | non => exact .non
  | bl b => exact .bl b
  | str z h1 h3 => exact .str z h1 h3
  | tup h1 h2 h3 => exact .tup (by rw [upd_ne (fun z => hn (by rw [z]))]; exact h1) h2 h3
  | lst h1 h2 h3 => exact .lst (by rw [upd_ne (fun z => hn (by rw [z]))]; exact h1) h2 h3
  | dic h1 => exact .dic (by rw [upd_ne (fun z => hn (by rw [z]))]; exact h1)
theorem Od.keep {p : Addr} {v : V} {tx : Str} (h : Od H v tx) (hn : v ≠ .ref p) (k : ∀ b o, b ≠ p → H b = some o → H' b = some o) : Od H' v tx := by
  cases h with
  | non => exact .non
  | bl b => exact .bl b
  | str z h1 h3 => exact .str z h1 h3
  | tup h1 h2 h3 => exact .tup (k _ _ (fun z => hn (by rw [z])) h1) h2 h3
  | lst h1 h2 h3 => exact .lst (k _ _ (fun z => hn (by rw [z])) h1) h2 h3
  | dic h1 => exact .dic (k _ _ (fun z => hn (by rw [z])) h1)
theorem scO_lst {c : Addr} {ns : List Int} {xs : List V} : ScO c ns ≠ .lst xs := fun z => by unfold ScO at z; cases z
theorem penO_lst {a c : Addr} {n : Nat} {xs : List V} : PenO a c n ≠ .lst xs := fun z => by unfold PenO at z; cases z
theorem Wo.up {Tt : List (Addr × Str)} {p l : Addr} {n : Nat} {xs zs : List V} (w : Wo Tt H p n) (hl : H l = some (.lst xs)) : Wo Tt (upd H l (.lst zs)) p n := by
  obtain ⟨c, ns, h1, h2, h3⟩ := w.pen
  refine ⟨⟨c, ns, ?_, ?_, h3⟩, fun t ht => ?_⟩
  · rw [upd_ne (ne_of h1 hl penO_lst)]; exact h1
  · rw [upd_ne (ne_of h2 hl scO_lst)]; exact h2
  · obtain ⟨ps, g1, g2, g3⟩ := w.tabs t ht
    refine ⟨ps, by rw [upd_ne (ne_of g1 hl (by intro z; cases z))]; exact g1, g2, fun pos cv hc => ?_⟩
    obtain ⟨c, e1, e2⟩ := g3 pos cv hc
    exact ⟨c, e1, by rw [upd_ne (ne_of e2 hl (by intro z; unfold CodeO at z; cases z))]; exact e2⟩
theorem Sx.app {Tt : List (Addr × Str)} {l m p : Addr} {n : Nat} {o u : Int} {v : V} {tx : Str} {xs : List V} {r : Addr} (S : Sx Tt C l m p n o u v tx H xs) (h : H r = some (.tup [.str "ratio", .str tx])) (hf : xs.length < 1000) :
    Sx Tt C l m p n o u v tx (upd H l (.lst (xs ++ [.ref r]))) (xs ++ [.ref r]) := by
  have go : ∀ b zs, H b = some (.tup zs) → upd H l (.lst (xs ++ [.ref r])) b = some (.tup zs) := fun b zs e => by
    rw [upd_ne (ne_of e S.lst (by intro z; cases z))]; exact e
  refine ⟨upd_same, fun x hx => ?_, ?_, S.od.up S.ne, S.ne, S.wo.up S.lst, by simp; omega⟩
  · rcases List.mem_append.mp hx with hx | hx
    · obtain ⟨r', h1, h2⟩ := S.els x hx
      exact ⟨r', h1, go _ _ h2⟩
    · rw [List.mem_singleton.mp hx]
      exact ⟨r, rfl, go _ _ h⟩
  · obtain ⟨dx, e⟩ := S.rt
    exact ⟨dx, by rw [upd_ne (ne_of e S.lst (by intro z; cases z))]; exact e⟩
theorem Sx.dp {Tt : List (Addr × Str)} {l m p : Addr} {n : Nat} {o u : Int} {v : V} {tx : Str} : ∀ {xs : List V}, (∀ x ∈ xs, ∃ r, x = .ref r ∧ H r = some (.tup [.str "ratio", .str tx])) → DpAll K H xs (List.replicate xs.length (.tuple [.str "ratio", .str tx]))
  | [], _ => .nil
  | x :: r, h => by
    obtain ⟨q, rfl, hq⟩ := h x List.mem_cons_self
    exact .cons (.tup (.inl (.inl hq)) (.cons (.str _) (.cons (.str _) .nil))) (Sx.dp (Tt := Tt) (l := l) (m := m) (p := p) (n := n) (o := o) (u := u) (v := v) fun y hy => h y (List.mem_cons_of_mem _ hy))
end
end L3
end
section
namespace L3
open PySem PySem.Spec PySem.Calls PyProof.Rows PySem.W
section
variable {prog : Program} {w : World} {A : Around} {E : Value → Shared → Prop} {s : Shared} {K : Frag} {x C f : Addr} {ox : Obj} {od : Option Obj} {T id : String} {name : Str} {B : Builtin} {u : Value} {op : CmpOp}
/-- a value of a built-in type, as the machine has it -/
inductive LU (h : Heap) : Value → String → Prop
  | non : LU h .none "NoneType"
  | bl (b : Bool) : LU h (.bool b) "bool"
  | str (z : Str) (t : Tok) : LU h (.str z t) "str"
  | tup {l : Addr} {o : Obj} : h.get? l = some o → o.cls = .type "tuple" → LU h (.ref l) "tuple"
  | lst {l : Addr} {o : Obj} : h.get? l = some o → o.cls = .type "list" → LU h (.ref l) "list"
  | dic {l : Addr} {o : Obj} : h.get? l = some o → o.cls = .type "dict" → LU h (.ref l) "dict"
theorem LU.is (h : LU s.heap u T) : s.TypeIs u T := by
  cases h with
  | non => exact rfl
  | bl b => exact rfl
  | str z t => exact rfl
  | tup e c => exact ⟨_, e, c⟩
  | lst e c => exact ⟨_, e, c⟩
  | dic e c => exact ⟨_, e, c⟩
/-- != by the class's own == -/
theorem try_ne {Q : Value → Shared → Prop} (hu : A.units + 1 < cLine) (X : K.In s.heap) (I : InstAt s.heap x ox C od) (hne : findIn K (.ref C) "__ne__" = some (some (.builtin "object.__ne__"))) (heq : findIn K (.ref C) "__eq__" = some (some (.ref f))) (hf : isFn K (.ref f) = true) (hob : mroIn K C (.type "object") = some true)
    (run : wpAny (model prog w) A.in1 (call (.ref f) [.ref x, u]) (fun v s' => ∃ c, v = .bool c ∧ Q (.bool (!c)) s') E s) :
    wpAny (model prog w) A (tryCompare (.ref x) "__ne__" u) (fun r s' => ∃ v, r = some v ∧ Q v s') E s := by
  have hin : Looks (model prog w) s.heap (isInstance (.ref x) (.type "object")) true := I.type.andThen (looks_mroIn X hob)
  have slot := PySem.F.slot_tuple_iterator_ne
  have body : wpAny (model prog w) A.in1 (Builtin.«object.__ne__» ⟨[.ref x, u], []⟩) (fun fin s' => ∃ v, fin = .done (.ret v) ∧ v ≠ .notImplemented ∧ Q v s') E s := by
    obtain ⟨hp, g, d, tk, os⟩ := s
    unfold Builtin.«object.__ne__»
    repeat (first
      | with_reducible refine wpAny_cRoomFor hu ?_
      | (refine wpAny_bind (m := callSpecialIfBound? (.ref x) (Str.ofString "__eq__") [u]) (ifBound_K X I heq hf (wpAny_mono run (fun r s' hr => by
          obtain ⟨b, rfl, hq⟩ := hr
          repeat (first | exact ⟨.bool (!b), rfl, (by intro z; cases z), hq⟩ | exact wpAny_pure ⟨.bool (!b), rfl, (by intro z; cases z), hq⟩ | (refine wpAny_bind (m := truthy (.bool _)) (wpAny_truthy_bool ?_)) | wp_step)) fun _ _ e => e)))
      | wp_step)
  have called : wpAny (model prog w) A (call (.builtin "object.__ne__") [.ref x, u]) (fun v s' => v ≠ .notImplemented ∧ Q v s') E s := by
    refine wpAny_call (codeAny_call_builtin slot.plain PySem.F.cmpEntry_ne ?_)
    refine @check_slot (model prog w) _ _ s "object.__ne__" "object" "__ne__" (.ref x) [u] [] _ PySem.F.cmpKind_ne PySem.F.cmpSplit_ne hin (PySem.F.cmpArgs_ne _ _) ?_
    refine wpAny_mono body (fun fin s' hf => ?_) fun _ _ e => e
    obtain ⟨v, rfl, h1, h2⟩ := hf
    exact ⟨h1, h2⟩
  unfold tryCompare
  simp only [callSpecialIfBound?, bindSpecialIfBound?]
  refine wpAny_bind (wpAny_holding (wpAny_bind (wpAny_bind (wpAny_bind (I.type.here ((looks_findIn X hne).here ?_))))))
  simp only [slot.bind]
  refine wpAny_bind (wpAny_askSetting (wpAny_ite ?_))
  have fin : wpAny (model prog w) A (call (.builtin "object.__ne__") ([.ref x] ++ [u]) >>= fun v => pure (some v)) (fun r s' => wpAny (model prog w) A (match r with | some .notImplemented | none => pure none | some v => pure (some v)) (fun r s' => ∃ v, r = some v ∧ Q v s') E s') E s :=
    wpAny_bind (wpAny_mono called (fun v s' h' => wpAny_pure (by
      obtain ⟨h1, h2⟩ := h'
      cases v <;> first | exact absurd rfl h1 | exact wpAny_pure ⟨_, rfl, h2⟩)) fun _ _ h' => h')
  split
  · exact wpAny_bind (wpAny_pure (wpAny_pure (by exact fin)))
  · exact wpAny_tryCatch (wpAny_bind (wpAny_pure (wpAny_pure (by exact fin))))
end
end L3
end
section
namespace L3
open PySem PySem.Spec PySem.Calls PyProof.Rows PySem.W
theorem cmp_first {prog : Program} {w : World} {A : Around} {E : Value → Shared → Prop} {s : Shared} {K : Frag} {x C : Addr} {ox : Obj} {od : Option Obj} {op : CmpOp} {b tb : Value} {Q : Value → Shared → Prop} {f : Str} (hu : A.units < cLine) (X : K.In s.heap) (I : InstAt s.heap x ox C od) (hb : Looks (model prog w) s.heap (typeOf b) tb) (hn : notFirst K C tb = true) (hf : (cmpInfo op).2.1 = f)
    (one : wpAny (model prog w) A (tryCompare (.ref x) f b) (fun r s' => ∃ v, r = some v ∧ Q v s') E s) : wpAny (model prog w) A (richCompare op (.ref x) b) Q E s := by
  subst hf
  unfold richCompare
  simp only [oneThing_ref]
  refine wpAny_holding (wpAny_bind (wpAny_cRoomFor hu ?_))
  refine wpAny_bind (I.type.here (wpAny_bind (hb.here ?_)))
  have fin : ∀ (r : Option Value) (s' : Shared), (∃ v, r = some v ∧ Q v s') → ∃ v, r = some v ∧ Q v s' := fun _ _ z => z
  by_cases q : (Value.ref C != tb) = true
  · rw [if_pos q]
    have e : subIn K tb (.ref C) = some false := by
      rcases Bool.or_eq_true_iff.mp hn with e | e
      · rw [beq_iff_eq.mp e] at q; simp at q
      · exact beq_iff_eq.mp e
    refine wpAny_bind ((looks_subIn X e).here ?_)
    simp only [Bool.false_eq_true, if_false]
    refine wpAny_bind (wpAny_mono one (fun r s' z => ?_) fun _ _ e => e)
    obtain ⟨v, rfl, hq⟩ := z
    exact wpAny_pure hq
  · rw [if_neg q]
    refine wpAny_bind (wpAny_pure ?_)
    simp only [Bool.false_eq_true, if_false]
    refine wpAny_bind (wpAny_mono one (fun r s' z => ?_) fun _ _ e => e)
    obtain ⟨v, rfl, hq⟩ := z
    exact wpAny_pure hq
end L3
namespace L3
open PySem PySem.Spec PyProof.Rows L2 LamX
/-- what the written part says of the class, for its comparisons -/
structure CmpF (K : PySem.W.Frag) (C : Addr) : Prop where
  notF : (numTys.all fun T => PySem.W.notFirst K C (.type T)) = true
  notC : PySem.W.notFirst K C (.ref C) = true
  subs : (numTys.all fun T => decide (PySem.W.subIn K (.ref C) (.type T) = some false)) = true
  ob : PySem.W.mroIn K C (.type "object") = some true
  ne : PySem.W.findIn K (.ref C) "__ne__" = some (some (.builtin "object.__ne__"))
theorem CmpF.sub {K : PySem.W.Frag} {C : Addr} (F : CmpF K C) {T : String} (h : T ∈ numTys) : PySem.W.subIn K (.ref C) (.type T) = some false := of_decide_eq_true (List.all_eq_true.mp F.subs T h)
/-- a method of two parameters by its name -/
structure Me (P : Program) (w : World) (K : PySem.W.Frag) (mg : Str → Option Value) (base : Heap) (C : Addr) (m : Str) (k : Nat) (ps : List Str) (sp : Sp) : Prop where
  ex : ∃ (f : Addr) (fd : FuncData), PySem.W.findIn K (.ref C) m = some (some (.ref f)) ∧ PySem.W.isFn K (.ref f) = true ∧ FnOk P w K mg base (L2.CX P w) k f fd ps sp ∧ L2.Binds K fd ps []
section
variable {X : Cx} {C : Addr} {op : CmpOp} {k j : Nat} {sp : Sp} {E : XK} {m : Str}
theorem oth_looks {pins : List (Addr × Obj)} {σ : L2.St} {H : Hp} {s : Shared} {y : V} {u : Value} (F : CmpF X.K C) (I : Inv X pins σ H s) (r : RelV y u) (h : OthV C y H) : ∃ tb, PySem.W.Looks (model X.prog X.w) s.heap (typeOf u) tb ∧ PySem.W.notFirst X.K C tb = true := by
  have go : ∀ T, TyX X.K H y (.type T) → T ∈ numTys → ∃ tb, PySem.W.Looks (model X.prog X.w) s.heap (typeOf u) tb ∧ PySem.W.notFirst X.K C tb = true := fun T ty hm => by
    obtain ⟨P', kx, hP, _⟩ := kit_of I r ty
    exact ⟨_, kx.ty _ _ I.kIn hP, List.all_eq_true.mp F.notF T hm⟩
  rcases h with ⟨b, dx, fs, rfl, e⟩ | ⟨i, rfl⟩ | ⟨t, h⟩
  · obtain rfl : u = Value.ref b := r
    obtain ⟨od, J⟩ := ins_inst I.hok e
    exact ⟨_, J.type, F.notC⟩
  · exact go _ (.base (.int i)) (by simp)
  · obtain ⟨T, h1, h2⟩ := h.tyAll (K := X.K)
    exact go T h1 (List.mem_cons_of_mem _ h2)
/-- own first -/
theorem cmpOwn (hop : ∀ a b, compareOp op a b = richCompare op a b) (F : CmpF X.K C) (hm : (cmpInfo op).2.1 = m) (B : Me X.prog X.w X.K X.mg X.base C m k ["self", "other"] sp) (hr : Room j X.A) (hx : Passes (L2.CX X.prog X.w) X E) (hk : k ≤ j := by decide) :
    OpR X (compareOp op) (rOwn C sp E) := by
  obtain ⟨f, fd, h1, h2, G, b⟩ := B.ex
  intro pins s σ H x y v u Q I rx ry h
  obtain ⟨a, dx, fs, rfl, ea, ho, q⟩ := h
  obtain rfl : v = Value.ref a := rx
  obtain ⟨od, J⟩ := ins_inst I.hok ea
  obtain ⟨tb, L, nf⟩ := oth_looks F I ry ho
  obtain ⟨mm, Fr⟩ := I.fr
  rw [hop]
  subst hm
  exact PySem.W.cmp_K hr.units0 Fr I.mod.kin J L nf h1 h2 (wpAny_mono (run_fn G (hr.mono hk) b .nil hx I (vs := [.ref a, y]) (.cons (show RelV (.ref a) (.ref a) from rfl) (.cons ry .nil)) (by rw [List.append_nil]; exact q)) (fun w' s' ⟨v', H', I', r', z⟩ => rel_back r' ⟨v', H', I', r', z⟩) fun _ _ z => z)
/-- != by the own ==: own first -/
theorem ask_ne {pins : List (Addr × Obj)} {s : Shared} {σ : L2.St} {H : Hp} {a dx : Addr} {fs : List (Str × V)} {x : V} {v : Value} {Q : VK} (F : CmpF X.K C) (B : Me X.prog X.w X.K X.mg X.base C "__eq__" k ["self", "other"] sp) (hr : Room (j + 1) X.A) (hx : Passes (L2.CX X.prog X.w) X E) (hk : k ≤ j)
    (I : Inv X pins σ H s) (rx : RelV x v) (ea : H a = some (.ins C dx fs)) (q : sp [.ref a, x] H (fun z H' => ∃ c, z = .bl c ∧ Q (.bl (!c)) H') E) : wpAny (model X.prog X.w) X.A (tryCompare (.ref a) "__ne__" v) (fun r s' => ∃ z, r = some z ∧ EP X pins σ Q z s') X.xe s := by
  obtain ⟨f, fd, h1, h2, G, b⟩ := B.ex
  obtain ⟨od, J⟩ := ins_inst I.hok ea
  have hl : ([Value.ref a, v] : List Value).length = (["self", "other"] : List Str).length := rfl
  refine try_ne (by have := hr.units; omega) I.kIn J F.ne h1 h2 F.ob ?_
  refine wpAny_call (codeAny_mono (G.run X.A.in1 X.stack s H ⟨[.ref a, v], []⟩ [.ref a, v] [.ref a, x] (fun z H' => ∃ c, z = .bl c ∧ Q (.bl (!c)) H') E (hr.in1.mono hk) I.env0.in1 (by have := b s [.ref a, v] I.kIn rfl; rw [List.append_nil] at this; exact this) (.cons (show RelV (.ref a) (.ref a) from rfl) (.cons rx .nil)) q) fun r s' z => ?_)
  match r, z with
  | .error e, z => exact hx pins σ H s e s' I z
  | .ok (.ret u), z =>
    obtain ⟨v', H', I', r', c, rfl, q'⟩ := I.after z
    cases (show u = Value.bool c from r')
    exact ⟨c, rfl, .bl (!c), H', I', rfl, q'⟩
def negQ (Q : VK) : VK := fun z H' => ∃ c, z = .bl c ∧ Q (.bl (!c)) H'
def rNeQ (r : R2) : R2 := fun x y H Q => r x y H (negQ Q)
theorem neOwn (F : CmpF X.K C) (B : Me X.prog X.w X.K X.mg X.base C "__eq__" k ["self", "other"] sp) (hr : Room (j + 1) X.A) (hx : Passes (L2.CX X.prog X.w) X E) (hk : k ≤ j := by decide) : OpR X (compareOp .NotEq) (rNeQ (rOwn C sp E)) := by
  intro pins s σ H x y v u Q I rx ry h
  obtain ⟨a, dx, fs, rfl, ea, ho, q⟩ := h
  obtain rfl : v = Value.ref a := rx
  obtain ⟨od, J⟩ := ins_inst I.hok ea
  obtain ⟨tb, L, nf⟩ := oth_looks F I ry ho
  show wpAny _ _ (richCompare .NotEq _ _) _ _ _
  exact cmp_first hr.units0 I.kIn J L nf rfl (ask_ne F B hr hx hk I ry ea q)
end
section
variable {C CB : Addr} {H : Hp} {Q : VK} {x y : V} {o u o' u' : Int} {E : XK}
def spEqR (C : Addr) : Sp := fun vs H Q _ => ∃ p y o u, vs = [.ref p, y] ∧ Rt C H p o u ∧ ((∃ o' u', Nm C H y o' u' ∧ Q (.bl (decide (o = o') && decide (u = u'))) H) ∨ (∃ t, Od H y t ∧ Q (.bl false) H))
end
end L3
end
section
namespace L3
open PySem PySem.Spec PyProof.Rows L2 LamX
section
variable {C CB : Addr} {H H' : Hp} {Q : VK} {x y : V} {o u o' u' : Int} {E : XK}
theorem Rz.ex {g : Str} {v : V} (h : Rz C g v H E) (e : Ex H H') : Rz C g v H' E := fun d H2 hd e2 hx => h d H2 (e.free hd) (e.trans e2) hx
end
end L3
end
section
namespace L3
open PySem PySem.Spec PyProof.Rows L2 LamX
end L3
end
section
namespace L3
open PySem PySem.Spec PySem.Calls PyProof.Rows PySem.W
open PySem.MeetsSeq2
open PySem.AutoSeq1 (wpAny_loadPart')
end L3
namespace L3
open PySem PySem.Spec PyProof.Rows L2 LamX L2H
end L3
end
section
namespace L3
open PySem PySem.Spec PyProof.Rows L2 LamX ClX
structure StM (P : Program) (w : World) (K : PySem.W.Frag) (mg : Str → Option Value) (base : Heap) (CX : CXT) (k : Nat) (C : Addr) (m : Str) (ps : List Str) (sp : Sp) : Prop where
  ex : ∃ (mc : Value) (p g : Addr) (gd : FuncData) (rest : List Value), CRead K C mc ∧ PySem.W.findCls K (.ref C) mc m = some (.get (.builtin "staticmethod.__get__") (.ref p) .none (.ref C)) ∧ PySem.W.recIn K p "staticmethod" = some (.ref g :: rest) ∧ PySem.W.handedIn (.ref g) = true ∧
    PySem.W.keepIn K (.ref g) = true ∧ FnOk P w K mg base CX k g gd ps sp ∧ L2.Binds K gd ps [] ∧ ∀ (s : Shared) (ws : List Value), K.In s.heap → ws.length = ps.length → BindsTo s gd ⟨[], ps.zip ws⟩ (ps.zip ws)
def tSt (C : Addr) (sp : Sp) (E : XK) (ta : TE) (t : TA) : TE := fun σ H Q => ta σ H fun x H1 => x = .ref C ∧ t σ H1 fun vs H2 => sp vs H2 Q E
section
variable {X : Cx} {CX : CXT} {k j : Nat} {C : Addr} {sp : Sp} {E : XK} {o e : Expr} {es : List Expr} {m : Str} {ps : List Str} {pos apos : Pos} {ta : TE} {t : TA} {pl : Sem Bool}
theorem getst {pins : List (Addr × Obj)} {σ : L2.St} {H : Hp} {s : Shared} {A : Around} {E' : Value → Shared → Prop} {Q : Value × List Value → Shared → Prop} {mc : Value} {p g : Addr} {rest : List Value} (I : Inv X pins σ H s) (r : CRead X.K C mc) (h1 : PySem.W.findCls X.K (.ref C) mc m = some (.get (.builtin "staticmethod.__get__") (.ref p) .none (.ref C)))
    (h2 : PySem.W.recIn X.K p "staticmethod" = some (.ref g :: rest)) (h3 : PySem.W.handedIn (.ref g) = true) (h : ∀ s', Inv X pins σ H s' → Q (.ref g, []) s') : wpAny (model X.prog X.w) A (getMethod (.ref C) m pl) Q E' s :=
  PySem.W.method_cls I.kIn r.ga (PySem.W.cls_bind I.kIn r.rd h1 (wpAny_call (PySem.W.sm_get (s := { s with toks := s.toks + 1 }) I.kIn h2 (PySem.W.handed_on h3 (h _ (I.tok _))))))
theorem pe_st (c : StM X.prog X.w X.K X.mg X.base CX k C m ps sp) (hr : Room j X.A) (hx : Passes CX X E) (he : PE X o ta) (ha : PA X (e :: es) t) (hk : k ≤ j := by decide)
    (hst : starEach (e :: es) X.env = (false, eval e X.env) :: starEach es X.env := by rfl) (hpl : (backTo pos (starEach es X.env)).any (·.1) = false := by rfl)
    (ht : eval (.Call (.Attribute o m apos) (e :: es) [] pos) X.env = (do
      let ov ← eval o X.env
      standAt apos.atName
      let (f, first) ← holding [ov] (getMethod ov m pl)
      callWith pos f first (backTo pos (starEach (e :: es) X.env)) (backToKw pos (keywordEach [] X.env))) := by rfl) :
    PE X (.Call (.Attribute o m apos) (e :: es) [] pos) (tSt C sp E ta t) := by
  obtain ⟨mc, p, g, gd, rest, r, h1, h2, h3, kp, F, b, _⟩ := c.ex
  refine ⟨fun pins s σ H Q I h => ?_⟩
  refine PySem.W.methodCall_KW (pl := pl) (thn (he.run pins s σ H _ I h) fun u s1 hh => ?_) ht
  obtain ⟨x, H1, I1, rx, ex, q⟩ := hh
  subst ex
  obtain rfl : u = Value.ref C := rx
  refine getst I1 r h1 h2 h3 fun s2 I2 => ?_
  refine PySem.W.callWith_K (h₀ := X.base) (first := []) I2.ok.mod.kin kp (thn (ha.run pos pins s2 σ H1 _ I2 q) fun us s3 hh => ?_) hst hpl
  obtain ⟨vs, H2, I3, rv, q2⟩ := hh
  exact ⟨I3.kIn, run_fn F (hr.mono hk) b .nil hx I3 rv (by rw [List.append_nil]; exact q2)⟩
theorem pe_stk {kws : List Keyword} (c : StM X.prog X.w X.K X.mg X.base CX k C m ps sp) (hr : Room j X.A) (hx : Passes CX X E) (he : PE X o ta) (ha : PK X kws t) (hk : k ≤ j := by decide)
    (hall : (backToKw pos (keywordEach kws X.env)).all (·.1.isSome) = true := by rfl) (hks : (backToKw pos (keywordEach kws X.env)).filterMap (·.1) = ps := by rfl) (hpl : ((backTo pos (starEach [] X.env)).any (·.1) || (backToKw pos (keywordEach kws X.env)).any (·.1.isNone)) = false := by rfl)
    (ht : eval (.Call (.Attribute o m apos) [] kws pos) X.env = (do
      let ov ← eval o X.env
      standAt apos.atName
      let (f, first) ← holding [ov] (getMethod ov m pl)
      callWith pos f first (backTo pos (starEach [] X.env)) (backToKw pos (keywordEach kws X.env))) := by rfl) :
    PE X (.Call (.Attribute o m apos) [] kws pos) (tSt C sp E ta t) := by
  obtain ⟨mc, p, g, gd, rest, r, h1, h2, h3, kp, F, _, b⟩ := c.ex
  refine ⟨fun pins s σ H Q I h => ?_⟩
  refine PySem.W.methodCall_KW (pl := pl) (thn (he.run pins s σ H _ I h) fun u s1 hh => ?_) ht
  obtain ⟨x, H1, I1, rx, ex, q⟩ := hh
  subst ex
  obtain rfl : u = Value.ref C := rx
  refine getst I1 r h1 h2 h3 fun s2 I2 => ?_
  refine PySem.W.callWith_KW0 (h₀ := X.base) (first := []) I2.ok.mod.kin kp hall (thn (ha.run pos pins s2 σ H1 _ I2 q) fun us s3 hh => ?_) hpl
  obtain ⟨vs, H2, I3, rv, q2⟩ := hh
  rw [hks]
  refine ⟨I3.kIn, ?_⟩
  have hl : us.length = ps.length := by rw [← rv.length]; exact F.len _ _ _ _ q2
  refine wpAny_call (codeAny_mono (F.run X.A X.stack s3 H2 ⟨[], ps.zip us⟩ us vs Q E (hr.mono hk) I3.env0 (b s3 us I3.kIn hl) rv q2) fun y s' z => ?_)
  match y, z with
  | .error e, z => exact hx pins σ H2 s3 e s' I3 z
  | .ok (.ret u), z => exact I3.after z
end
end L3
end
section
namespace L3
open PySem PySem.Spec PyProof.Rows L2 LamX L2H
end L3
end
section
namespace L3
open PySem PySem.Spec PyProof.Rows L2 LamX
section
variable {C CB : Addr} {H H' : Hp} {Q : VK} {E : XK}
/-- no integer: another value or a fraction -/
def OdR (C : Addr) (H : Hp) (x : V) : Prop := (∃ t, Od H x t) ∨ ∃ q o u, x = .ref q ∧ Rt C H q o u
theorem OdR.exN {x : V} (h : OdR C H x) (e : ExtN H H') : OdR C H' x := by
  rcases h with ⟨t, h⟩ | ⟨q, o, u, rfl, h⟩
  · exact .inl ⟨t, h.exN e⟩
  · exact .inr ⟨q, o, u, rfl, h.exN e⟩
end
end L3
end
section
namespace L3
open PySem PySem.Spec PyProof.Rows L2 LamX
namespace KX
variable {X : Cx} {K : PySem.W.Frag} (hK : X.K = K)
include hK
theorem isiTT : CallR X (.builtin "isinstance") (rIsiT K) := by subst hK; exact call_isiT
end KX
section
variable {K : PySem.W.Frag} {C CB : Addr} {H H' : Hp} {Q : VK} {E : XK}
theorem kit_lt {a : String} {b1 b2 : Bool} (h1 : kitB a "list" = some b1) (h2 : kitB a "tuple" = some b2) : PySem.W.kitAny K (.type a) [.type "list", .type "tuple"] = some (b1 || b2) := by
  have e1 := kit_ty (K := K) h1
  have e2 := kit_ty (K := K) h2
  unfold PySem.W.kitAny
  unfold PySem.W.kitAny
  unfold PySem.W.kitAny
  rw [e1, e2]
  cases b1 <;> cases b2 <;> rfl
theorem s_isiLT {x : V} {q : Addr} {t : Value} {b : Bool} (hq : H q = some (.tup [.ty "list", .ty "tuple"])) (ty : TyX K H x t) (e : PySem.W.kitAny K t [.type "list", .type "tuple"] = some b) (h : Q (.bl b) H) : rIsiT K [x, .ref q] H Q :=
  ⟨x, q, _, t, _, b, rfl, hq, .cons (.ty _) (.cons (.ty _) .nil), ty, e, h⟩
theorem s_lenT {R : Nat → Prop} {p : Addr} {xs : List V} (hp : H p = some (.tup xs)) (h : R xs.length) : ∃ x n, [V.ref p] = [x] ∧ LenV K x H n ∧ R n := ⟨_, _, rfl, .inr ⟨xs, .inl (.inl hp), rfl⟩, h⟩
inductive Nms (C : Addr) (H : Hp) : List V → List (Int × Int) → Prop
  | nil : Nms C H [] []
  | cons {v : V} {vs : List V} {q : Int × Int} {qs : List (Int × Int)} : Nm C H v q.1 q.2 → Bd q.1 q.2 → Nms C H vs qs → Nms C H (v :: vs) (q :: qs)
theorem Nm.ex' {v : V} {o u : Int} (h : Nm C H v o u) (e : Ex H H') : Nm C H' v o u := by
  rcases h with ⟨q, rfl, r⟩ | h
  · exact .inl ⟨q, rfl, r.ex e⟩
  · exact .inr h
theorem Nms.ex {vs : List V} {qs : List (Int × Int)} (h : Nms C H vs qs) (e : Ex H H') : Nms C H' vs qs := by
  induction h with
  | nil => exact .nil
  | cons a b _ ih => exact .cons (a.ex' e) b ih
theorem Nms.length {vs : List V} {qs : List (Int × Int)} (h : Nms C H vs qs) : vs.length = qs.length := by
  induction h with
  | nil => rfl
  | cons _ _ _ b => simp [b]
theorem Nms.get {vs : List V} {qs : List (Int × Int)} (h : Nms C H vs qs) : ∀ {i : Nat} {x : V}, vs[i]? = some x → ∃ q, qs[i]? = some q ∧ Nm C H x q.1 q.2 ∧ Bd q.1 q.2 := by
  induction h with
  | nil => intro i x e; simp at e
  | cons a b _ ih =>
    intro i x e
    cases i with
    | zero => cases e; exact ⟨_, rfl, a, b⟩
    | succ i => exact ih (by simpa using e)
/-- no list, no tuple; or an empty one -/
inductive NoLT (H : Hp) : V → Prop
  | non : NoLT H .non
  | bl (b : Bool) : NoLT H (.bl b)
  | int (i : Int) : NoLT H (.int i)
  | str (z : Str) : NoLT H (.str z)
  | dic {p : Addr} {kvs : List (Key × V)} : H p = some (.dK kvs) → NoLT H (.ref p)
theorem NoLT.ty {v : V} (h : NoLT H v) : ∃ t, TyX K H v t ∧ PySem.W.kitAny K t [.type "list", .type "tuple"] = some false := by
  cases h with
  | non => exact ⟨_, .base .non, kit_lt (b1 := false) (b2 := false) (by decide +kernel) (by decide +kernel)⟩
  | bl b => exact ⟨_, .base (.bl b), kit_lt (b1 := false) (b2 := false) (by decide +kernel) (by decide +kernel)⟩
  | int b => exact ⟨_, .base (.int b), kit_lt (b1 := false) (b2 := false) (by decide +kernel) (by decide +kernel)⟩
  | str b => exact ⟨_, .base (.str b), kit_lt (b1 := false) (b2 := false) (by decide +kernel) (by decide +kernel)⟩
  | dic h => exact ⟨_, .base (.dK h), kit_lt (b1 := false) (b2 := false) (by decide +kernel) (by decide +kernel)⟩
theorem NoLT.ex {v : V} (h : NoLT H v) (e : Ex H H') : NoLT H' v := by
  cases h with
  | non => exact .non
  | bl b => exact .bl b
  | int b => exact .int b
  | str b => exact .str b
  | dic h => exact .dic (e _ _ h)
variable {g : TG} {tb : TS} {D : Ends} {σ : L2.St} {tl : TE}
def ForL (K : PySem.W.Frag) (a : Addr) (g : TG) (tb : TS) (D : Ends) (σ : L2.St) (H : Hp) : Prop := ∃ W : Nat → Nat → L2.St → Hp → Prop, (∃ m, W 0 m σ H) ∧ ∀ (i m : Nat) (σ : L2.St) (H : Hp), W i m σ H → (Itl K a).stop i H ∧ D.nx σ H ∨ (Itl K a).go i H ∧
  ∃ N, (∀ (σ' : L2.St) (H' : Hp), N σ' H' → ∃ m', m' < m ∧ W (i + 1) m' σ' H') ∧ ∀ (x : V) (H' : Hp), (Itl K a).yld i H x H' → g x σ H' fun σ2 H2 => tb { nx := N, rt := D.rt, bk := D.nx, ct := N } σ2 H2
def ForT (K : PySem.W.Frag) (a : Addr) (g : TG) (tb : TS) (D : Ends) (σ : L2.St) (H : Hp) : Prop := ∃ W : Nat → Nat → L2.St → Hp → Prop, (∃ m, W 0 m σ H) ∧ ∀ (i m : Nat) (σ : L2.St) (H : Hp), W i m σ H → (Itt K a).stop i H ∧ D.nx σ H ∨ (Itt K a).go i H ∧
  ∃ N, (∀ (σ' : L2.St) (H' : Hp), N σ' H' → ∃ m', m' < m ∧ W (i + 1) m' σ' H') ∧ ∀ (x : V) (H' : Hp), (Itt K a).yld i H x H' → g x σ H' fun σ2 H2 => tb { nx := N, rt := D.rt, bk := D.nx, ct := N } σ2 H2
theorem s_forL (h : tl σ H fun x H1 => ∃ a, x = .ref a ∧ (∃ xs, SqL K H1 a xs) ∧ ForL K a g tb D σ H1) : tFor (iList K tl) g tb D σ H := h
theorem s_forT (h : tl σ H fun x H1 => ∃ a, x = .ref a ∧ (∃ xs, SqT K H1 a xs) ∧ ForT K a g tb D σ H1) : tFor (iTup K tl) g tb D σ H := h
theorem s_fL {a : Addr} {xs : List V} (ha : H a = some (.lst xs)) (Pv : Nat → L2.St → Hp → Prop) (h0 : Pv 0 σ H) (hs : ∀ i σ H, Pv i σ H → H a = some (.lst xs))
    (hb : ∀ i x σ H, xs[i]? = some x → Pv i σ H → g x σ H fun σ2 H2 => tb { nx := Pv (i + 1), rt := D.rt, bk := D.nx, ct := Pv (i + 1) } σ2 H2) (he : ∀ σ H, Pv xs.length σ H → D.nx σ H) :
    ∃ a', V.ref a = .ref a' ∧ (∃ xs, SqL K H a' xs) ∧ ForL K a' g tb D σ H := ⟨a, rfl, ⟨xs, .inl (.inl ha)⟩, for_list Pv h0 (fun i σ H _ h => .inl (.inl (hs i σ H h))) hb he⟩
theorem s_fT {a : Addr} {xs : List V} (ha : H a = some (.tup xs)) (Pv : Nat → L2.St → Hp → Prop) (h0 : Pv 0 σ H) (hs : ∀ i σ H, Pv i σ H → H a = some (.tup xs))
    (hb : ∀ i x σ H, xs[i]? = some x → Pv i σ H → g x σ H fun σ2 H2 => tb { nx := Pv (i + 1), rt := D.rt, bk := D.nx, ct := Pv (i + 1) } σ2 H2) (he : ∀ σ H, Pv xs.length σ H → D.nx σ H) :
    ∃ a', V.ref a = .ref a' ∧ (∃ xs, SqT K H a' xs) ∧ ForT K a' g tb D σ H := ⟨a, rfl, ⟨xs, .inl (.inl ha)⟩, for_tup Pv h0 (fun i σ H _ h => .inl (.inl (hs i σ H h))) hb he⟩
theorem s_gNm {i : Nat} {v : V} {R : L2.St → Hp → Prop} (h : R (σ.set i (some v)) H) : gName i v σ H R := h
end
end L3
end
section
namespace L3
open PySem PySem.Spec PyProof.Rows L2 LamX
end L3
end
section
namespace L3
open PySem PySem.Spec PyProof.Rows L2 LamX
section
variable {K : PySem.W.Frag} {σ : L2.St} {H H' : Hp} {Q : VK} {C CB : Addr}
inductive Vl (H : Hp) : V → Str → Prop
  | od {v : V} {t : Str} : Od H v t → Vl H v t
  | int (i : Int) : i.natAbs.log2 < 1920 → (PyData.int i).shown.length ≤ 1001 → Vl H (.int i) (PyData.int i).shown
  | d12 {p : Addr} : H p = some (.dK [(.inl 1, .int 2)]) → Vl H (.ref p) (PyData.dict [(.int 1, .int 2)]).shown
theorem Vl.exN {v : V} {t : Str} (h : Vl H v t) (e : ExtN H H') : Vl H' v t := by
  cases h with
  | od h => exact .od (h.exN e)
  | int i h2 h3 => exact .int i h2 h3
  | d12 h => exact .d12 (e _ _ h fun _ z => nomatch z)
theorem Vl.ex {v : V} {t : Str} (h : Vl H v t) (e : Ex H H') : Vl H' v t := h.exN e.n
theorem Vl.up {v : V} {t : Str} {l : Addr} {o : HO} (h : Vl H v t) (hn : v ≠ .ref l) : Vl (upd H l o) v t := by
  cases h with
  | od h => exact .od (h.up hn)
  | int i h2 h3 => exact .int i h2 h3
  | d12 h => exact .d12 (by rw [upd_ne (fun z => hn (by rw [z]))]; exact h)
theorem Vl.keep {p : Addr} {v : V} {t : Str} (h : Vl H v t) (hn : v ≠ .ref p) (k : ∀ b o, b ≠ p → H b = some o → H' b = some o) : Vl H' v t := by
  cases h with
  | od h => exact .od (h.keep hn k)
  | int i h2 h3 => exact .int i h2 h3
  | d12 h => exact .d12 (k _ _ (fun z => hn (by rw [z])) h)
theorem Vl.repr {v : V} {t : Str} (h : Vl H v t) (q : Q (.str t) H) : rReprU K [v] H Q := by
  cases h with
  | od h => exact h.repr q
  | int i h2 h3 => exact .inl ⟨_, .int i, rfl, .int i, decide_eq_true h2, Nat.zero_le _, Nat.le_trans h3 (by decide +kernel), q⟩
  | d12 h => exact .inr ⟨_, rfl, .inr ⟨h, q⟩⟩
/-- what lies nowhere yet is none of these -/
theorem Vl.new {v : V} {t : Str} {l : Addr} (h : Vl H v t) (hl : H l = none) : v ≠ .ref l := fun z => by
  subst z
  cases h with
  | od h =>
    cases h with
    | tup q _ _ => rw [hl] at q; cases q
    | lst q _ _ => rw [hl] at q; cases q
    | dic q => rw [hl] at q; cases q
  | d12 q => rw [hl] at q; cases q
/-- the heard pairs -/
inductive Hrd (H : Hp) : List V → List Str → Prop
  | nil : Hrd H [] []
  | cons {r : Addr} {vs : List V} {t : Str} {ts : List Str} : H r = some (.tup [.str "ratio", .str t]) → Hrd H vs ts → Hrd H (.ref r :: vs) (t :: ts)
theorem Hrd.exN {vs : List V} {ts : List Str} (h : Hrd H vs ts) (e : ExtN H H') : Hrd H' vs ts := by
  induction h with
  | nil => exact .nil
  | cons a _ b => exact .cons (e _ _ a fun _ z => nomatch z) b
theorem Hrd.up {vs : List V} {ts : List Str} {l : Addr} {xs zs : List V} (h : Hrd H vs ts) (hl : H l = some (.lst xs)) : Hrd (upd H l (.lst zs)) vs ts := by
  induction h with
  | nil => exact .nil
  | cons a _ b => exact .cons (by rw [upd_ne (ne_of a hl (by intro z; cases z))]; exact a) b
theorem Hrd.snoc {vs : List V} {ts : List Str} {r : Addr} {t : Str} (h : Hrd H vs ts) (a : H r = some (.tup [.str "ratio", .str t])) : Hrd H (vs ++ [.ref r]) (ts ++ [t]) := by
  induction h with
  | nil => exact .cons a .nil
  | cons b _ c => exact .cons b c
theorem Hrd.length {vs : List V} {ts : List Str} (h : Hrd H vs ts) : vs.length = ts.length := by
  induction h with
  | nil => rfl
  | cons _ _ b => simp [b]
def hrD (ts : List Str) : List PyData := ts.map fun t => .tuple [.str "ratio", .str t]
theorem Hrd.dp {vs : List V} {ts : List Str} (h : Hrd H vs ts) : DpAll K H vs (hrD ts) := by
  induction h with
  | nil => exact .nil
  | cons a _ b => exact .cons (.tup (.inl (.inl a)) (.cons (.str _) (.cons (.str _) .nil))) b
/-- so far heard: the list l; what is known of some values; the pen -/
structure Sy (Tt : List (Addr × Str)) (l p : Addr) (n : Nat) (Pv : Hp → Prop) (H : Hp) (xs : List V) (ts : List Str) : Prop where
  lst : H l = some (.lst xs)
  els : Hrd H xs ts
  pv : Pv H
  wo : Wo Tt H p n
  few : xs.length ≤ 1000
structure Clo (l : Addr) (Pv : Hp → Prop) : Prop where
  ext : ∀ H H', Pv H → ExtN H H' → Pv H'
  upd : ∀ H zs, Pv H → Pv (upd H l (.lst zs))
theorem Sy.exN {Tt : List (Addr × Str)} {l p : Addr} {n : Nat} {Pv : Hp → Prop} {xs : List V} {ts : List Str} (S : Sy Tt l p n Pv H xs ts) (c : Clo l Pv) (e : ExtN H H') (t : Tabs Tt H') : Sy Tt l p n Pv H' xs ts :=
  ⟨e _ _ S.lst (fun _ z => nomatch z), S.els.exN e, c.ext _ _ S.pv e, S.wo.exN e t, S.few⟩
theorem Sy.app {Tt : List (Addr × Str)} {l p : Addr} {n : Nat} {Pv : Hp → Prop} {xs : List V} {ts : List Str} {r : Addr} {tx : Str} (S : Sy Tt l p n Pv H xs ts) (c : Clo l Pv) (h : H r = some (.tup [.str "ratio", .str tx])) (hf : xs.length < 1000) :
    Sy Tt l p n Pv (upd H l (.lst (xs ++ [.ref r]))) (xs ++ [.ref r]) (ts ++ [tx]) :=
  ⟨upd_same, (S.els.up S.lst).snoc (by rw [upd_ne (ne_of h S.lst (by intro z; cases z))]; exact h), c.upd _ _ S.pv, S.wo.up S.lst, by simp; omega⟩
/-- no list or tuple of numbers -/
def Lt (H : Hp) (v : V) : Prop := NoLT H v ∨ ∃ a, v = .ref a ∧ (H a = some (.lst []) ∨ H a = some (.tup []))
theorem Lt.map {v : V} {G : Hp} (h : Lt H v) (f : ∀ a o, v = .ref a → H a = some o → (∀ ps, o ≠ .tbl ps) → G a = some o) : Lt G v := by
  rcases h with h | ⟨a, rfl, h⟩
  · cases h with
    | non => exact .inl .non
    | bl b => exact .inl (.bl b)
    | int i => exact .inl (.int i)
    | str z => exact .inl (.str z)
    | dic h => exact .inl (.dic (f _ _ rfl h fun _ z => nomatch z))
  · exact .inr ⟨a, rfl, h.imp (fun h => f _ _ rfl h fun _ z => nomatch z) (fun h => f _ _ rfl h fun _ z => nomatch z)⟩
theorem Lt.exN {v : V} (h : Lt H v) (e : ExtN H H') : Lt H' v := h.map fun a o _ h n => e a o h n
theorem Lt.up {v : V} {l : Addr} {o : HO} (h : Lt H v) (hn : v ≠ .ref l) : Lt (upd H l o) v := h.map fun a o e h _ => by rw [upd_ne (fun z => hn (by rw [e, z]))]; exact h
theorem Lt.keep {p : Addr} {v : V} (h : Lt H v) (hn : v ≠ .ref p) (k : ∀ b o, b ≠ p → H b = some o → H' b = some o) : Lt H' v := h.map fun a o e h _ => k a o (fun z => hn (by rw [e, z])) h
end
end L3
end
section
namespace L3
open PySem PySem.Spec PyProof.Rows L2 LamX ClX
def rStrOwn (C : Addr) (sp : Sp) (E : XK) : List V → Hp → VK → Prop := fun xs H Q => ∃ a dx fs, xs = [.ref a] ∧ H a = some (.ins C dx fs) ∧ sp [.ref a] H (fun z H' => ∃ y, z = .str y ∧ Q (.str y) H') E
theorem callStrOwn {X : Cx} {C : Addr} {k j : Nat} {sp : Sp} {E : XK} (B : Me X.prog X.w X.K X.mg X.base C "__str__" k ["self"] sp) (hr : Room (j + 2) X.A) (hx : Passes (L2.CX X.prog X.w) X E) (hk : k ≤ j := by decide) : CallR X (.type "str") (rStrOwn C sp E) := by
  obtain ⟨f, fd, h1, h2, G, b⟩ := B.ex
  intro pins s σ H xs us Q I r h
  obtain ⟨a, dx, fs, rfl, ea, q⟩ := h
  obtain ⟨u, rfl, rx⟩ := vals1 r
  cases (show u = Value.ref a from rx)
  obtain ⟨od, J⟩ := ins_inst I.hok ea
  refine PySem.W.kso_call (by have := hr.units; show X.A.units + 1 + 1 < cLine; omega) I.kIn J h1 h2 ?_
  refine wpAny_call (codeAny_mono (G.run X.A.in1.in1 X.stack s H ⟨[.ref a], []⟩ [.ref a] [.ref a] (fun z H' => ∃ y, z = .str y ∧ Q (.str y) H') E (hr.in1.in1.mono hk) I.env0.in1.in1 (by have := b s [.ref a] I.kIn rfl; rw [List.append_nil] at this; exact this) (.cons (show RelV (.ref a) (.ref a) from rfl) .nil) q) fun r s' z => ?_)
  match r, z with
  | .error e, z => exact hx pins σ H s e s' I z
  | .ok (.ret u), z =>
    obtain ⟨v', H', I', r', y, rfl, q'⟩ := I.after z
    obtain ⟨t, rfl⟩ := (show ∃ t, u = Value.str y t from r')
    exact ⟨.str y, H', I', ⟨t, rfl⟩, q'⟩
structure Er2 (P : Program) (w : World) (K : PySem.W.Frag) (mg : Str → Option Value) (base : Heap) (x : Str) (C : Addr) (g g2 : Str) : Prop where
  oex : OexC K C
  m : mg x = some (.ref C)
  ex : ∃ (f : Addr) (fd : FuncData) (y y2 : Str), PySem.W.findIn K (.ref C) "__init__" = some (some (.ref f)) ∧ PySem.W.typeIn K (.ref f) = some (.type "function") ∧ FnOk P w K mg base CX0 1 f fd ["self", y, y2] (spErr2 C g g2) ∧ L2.Binds K fd ["self", y, y2] []
def Rz2 (C : Addr) (g g2 : Str) (v v2 : V) (H : Hp) (E : XK) : Prop := ∀ d H', H d = none → Ex H H' → H' d = some (.xd [(g2, v2), (g, v)]) → E (.ref C) (some d) H'
theorem Rz2.ex {C : Addr} {g g2 : Str} {v v2 : V} {H H' : Hp} {E : XK} (h : Rz2 C g g2 v v2 H E) (e : Ex H H') : Rz2 C g g2 v v2 H' E := fun d H2 hd e2 hx => h d H2 (e.free hd) (e.trans e2) hx
def rMk2 (C : Addr) (g g2 : Str) (vs : List V) (H1 : Hp) (E : XK) : Prop := vs.length ≤ 1000 ∧ ∀ a, H1 a = none → spErr2 C g g2 (.ref a :: (vs ++ [])) (upd H1 a (exo a C none))
  (fun v H2 => v = .non ∧ ∃ (d : Addr) (fs : List (Str × V)), H2 a = some (exo a C (some d)) ∧ H2 d = some (exd d fs) ∧ H1 d = none ∧ E (.ref C) (some d) (upd (del H2 a) d (.xd fs))) (fun _ _ _ => False)
def tRaise2 (C : Addr) (g g2 : Str) (te te2 : TE) (W : WX) : TS := fun _ σ H => te σ H fun v H1 => te2 σ H1 fun v2 H2 => rMk2 C g g2 [v, v2] H2 (fun cls d H' => W cls d σ H')
theorem ps_raise2 {X : Cx} {W : WX} {x g g2 : Str} {C : Addr} {j : Nat} {e e2 : Expr} {te te2 : TE} {p p1 pos : Pos} (c : Er2 X.prog X.w X.K X.mg X.base x C g g2) (hr : Room j X.A) (hc : X.calm = true) (tk : Takes X W) (ha : PA X [e, e2] (tCons te (tCons te2 tNil))) (hk : 2 ≤ j := by decide) (gl : Gl X x := by rfl)
    (hdb : (x == ("__debug__" : Str)) = false := by decide) (hst : starEach [e, e2] X.env = (false, eval e X.env) :: starEach [e2] X.env := by rfl) (hpl : (backTo p1 (starEach [e2] X.env)).any (·.1) = false := by rfl) :
    PS X (.Raise (some (.Call (.Name x p) [e, e2] [] p1)) none pos) (tRaise2 C g g2 te te2 W) := by
  obtain ⟨f, fd, y, y2, i1, i2, F, b⟩ := c.ex
  exact ps_raise (pos := pos) hc tk (pmk_oex (p := p) (pos := p1) c.oex i1 i2 F (hr.mono hk) b .nil pass0 gl c.m ha hdb hst hpl)
theorem s_raise2 {C : Addr} {g g2 : Str} {te te2 : TE} {W : WX} {D : Ends} {σ : L2.St} {H : Hp} (h : te σ H fun v H1 => te2 σ H1 fun v2 H2 => rMk2 C g g2 [v, v2] H2 (fun cls d H' => W cls d σ H')) : tRaise2 C g g2 te te2 W D σ H := h
theorem s_rz2 {C : Addr} {g g2 : Str} {v v2 : V} {H : Hp} {E : XK} (h : Rz2 C g g2 v v2 H E) : rMk2 C g g2 [v, v2] H E := by
  refine ⟨(show 2 ≤ 1000 by decide), fun a ha => ⟨a, v, v2, rfl, upd_same, fun dx h1 h2 => ⟨rfl, dx, [(g2, v2), (g, v)], ?_, upd_same, ?_, h dx _ ?_ ?_ upd_same⟩⟩⟩
  · rw [upd_ne (Ne.symm h2), upd_same]
  · rw [upd_ne h2] at h1; exact h1
  · rw [upd_ne h2] at h1; exact h1
  · intro b o e
    have n1 : b ≠ a := ne_of_none e ha
    have n2 : b ≠ dx := by
      rw [upd_ne h2] at h1
      exact ne_of_none e h1
    rw [upd_ne n2, del_ne n1, upd_ne n2, upd_ne n1, upd_ne n2, upd_ne n1]
    exact e
end L3
end
section
namespace L3
open PySem PySem.Spec PySem.Calls PyProof.Rows PySem.W PySem.TypeEq
end L3
namespace L3
open PySem PySem.Spec PyProof.Rows L2 LamX
/-- two functions made by lambdas -/
def FnAt (H : Hp) (f : Addr) : Prop := H f = some (FnV f)
theorem FnAt.exN {H H' : Hp} {f : Addr} (h : FnAt H f) (e : ExtN H H') : FnAt H' f := e _ _ h fun _ z => by unfold FnV at z; cases z
end L3
end
section
namespace L3
open PySem PySem.Spec PyProof.Rows L2 LamX
/-- a number within, or anything else -/
def InB (v : V) (a b : Int) : Prop := ∃ i, v = .int i ∧ a ≤ i ∧ i ≤ b
def OutB (H : Hp) (v : V) (a b : Int) : Prop := (∃ t, Od H v t) ∨ ∃ i, v = .int i ∧ ¬ (a ≤ i ∧ i ≤ b)
theorem OutB.exN {H H' : Hp} {v : V} {a b : Int} (h : OutB H v a b) (e : ExtN H H') : OutB H' v a b := h.imp (fun ⟨t, h⟩ => ⟨t, h.exN e⟩) id
/-- a number or another value -/
def Kv (H : Hp) (v : V) : Prop := (∃ i, v = .int i) ∨ ∃ t, Od H v t
theorem Kv.exN {H H' : Hp} {v : V} (h : Kv H v) (e : ExtN H H') : Kv H' v := h.imp id fun ⟨t, h⟩ => ⟨t, h.exN e⟩
theorem Kv.ex {H H' : Hp} {v : V} (h : Kv H v) (e : Ex H H') : Kv H' v := h.exN e.n
theorem Kv.keep {H H' : Hp} {p : Addr} {v : V} (h : Kv H v) (hn : v ≠ .ref p) (k : ∀ b o, b ≠ p → H b = some o → H' b = some o) : Kv H' v := h.imp id fun ⟨t, h⟩ => ⟨t, h.keep hn k⟩
def fxF (i : Int) (t : Addr) : List (Str × V) := putF "modulus" (.int 1) (putF "parts" (.ref t) (putF "size" (.int i) []))
def Fx (C : Addr) (H : Hp) (q : Addr) (i : Int) : Prop := ∃ dx t, H q = some (.ins C dx (fxF i t)) ∧ H t = some (.tup [.ref q])
def dvF (x y w : Int) (t : Addr) : List (Str × V) := putF "modulus" (.int w) (putF "parts" (.ref t) (putF "w" (.int w) (putF "y" (.int y) (putF "x" (.int x) []))))
def Dv (C : Addr) (H : Hp) (q : Addr) (x y w : Int) : Prop := ∃ dx t, H q = some (.ins C dx (dvF x y w t)) ∧ H t = some (.tup [.ref q])
def byF (f t : Addr) : List (Str × V) := putF "modulus" (.int 1) (putF "parts" (.ref t) (putF "function" (.ref f) []))
def Byr (C : Addr) (H : Hp) (q f : Addr) : Prop := ∃ dx t, H q = some (.ins C dx (byF f t)) ∧ H t = some (.tup [])
section
variable {C CS CR : Addr} {H H' : Hp} {Q : VK} {E : XK}
theorem Fx.exN {q : Addr} {i : Int} (h : Fx C H q i) (e : ExtN H H') : Fx C H' q i := by
  obtain ⟨dx, t, a, b⟩ := h
  exact ⟨dx, t, e _ _ a (fun _ z => nomatch z), e _ _ b (fun _ z => nomatch z)⟩
theorem Fx.ex {q : Addr} {i : Int} (h : Fx C H q i) (e : Ex H H') : Fx C H' q i := h.exN e.n
theorem Dv.exN {q : Addr} {x y w : Int} (h : Dv C H q x y w) (e : ExtN H H') : Dv C H' q x y w := by
  obtain ⟨dx, t, a, b⟩ := h
  exact ⟨dx, t, e _ _ a (fun _ z => nomatch z), e _ _ b (fun _ z => nomatch z)⟩
theorem Dv.ex {q : Addr} {x y w : Int} (h : Dv C H q x y w) (e : Ex H H') : Dv C H' q x y w := h.exN e.n
theorem Byr.exN {q f : Addr} (h : Byr C H q f) (e : ExtN H H') : Byr C H' q f := by
  obtain ⟨dx, t, a, b⟩ := h
  exact ⟨dx, t, e _ _ a (fun _ z => nomatch z), e _ _ b (fun _ z => nomatch z)⟩
def WrD (H : Hp) (a b c : V) (z : Str) : Prop := (OutB H a 0 24 ∧ z = "x") ∨ (InB a 0 24 ∧ OutB H b (-1000) 1000 ∧ z = "y") ∨ (InB a 0 24 ∧ InB b (-1000) 1000 ∧ OutB H c 1 24 ∧ z = "w")
theorem WrD.exN {a b c : V} {z : Str} (h : WrD H a b c z) (e : ExtN H H') : WrD H' a b c z := by
  rcases h with ⟨h, r⟩ | ⟨i, h, r⟩ | ⟨i, j, h, r⟩
  · exact .inl ⟨h.exN e, r⟩
  · exact .inr (.inl ⟨i, h.exN e, r⟩)
  · exact .inr (.inr ⟨i, j, h.exN e, r⟩)
end
end L3
end
section
namespace L3
open PySem PySem.Spec PyProof.Rows L2 LamX
section
variable {K : PySem.W.Frag} {σ : L2.St} {H H' : Hp} {Q : VK} {C CR CS CF CD : Addr}
theorem sh2 {a b : Str} (ha : PyData.strOk a = true) (hb : PyData.strOk b = true) : SeqAt.shaped (.tuple [.str a, .str b]) = true := by
  unfold SeqAt.shaped; simp only [PyData.canLay0, PyData.canLayAll0, ha, hb]; rfl
/-- the list of other values -/
def OddL (H : Hp) (l : Addr) : Prop := ∃ t e d, H l = some (.lst [.non, .bl true, .str "1", .ref t, .ref e, .ref d, .bl false]) ∧ H t = some (.tup [.int 1]) ∧ H e = some (.lst []) ∧ H d = some (.dK [])
theorem OddL.ex {l : Addr} (h : OddL H l) (e : Ex H H') : OddL H' l := by
  obtain ⟨t, a, d, h1, h2, h3, h4⟩ := h
  exact ⟨t, a, d, e _ _ h1, e _ _ h2, e _ _ h3, e _ _ h4⟩
theorem OddL.keep {l p : Addr} {n : Nat} (h : OddL H l) (hp : Pen H p n) (k : ∀ b o, b ≠ p → H b = some o → H' b = some o) : OddL H' l := by
  obtain ⟨t, a, d, h1, h2, h3, h4⟩ := h
  have nn : ∀ {q : Addr} {o : HO}, H q = some o → (∀ c n, o ≠ PenO p c n) → H' q = some o := fun {q o} e z => k _ _ (hp.ne e z) e
  exact ⟨t, a, d, nn h1 (fun c n z => by unfold PenO at z; cases z), nn h2 (fun c n z => by unfold PenO at z; cases z), nn h3 (fun c n z => by unfold PenO at z; cases z), nn h4 (fun c n z => by unfold PenO at z; cases z)⟩
theorem Byr.ex {q f : Addr} (h : Byr C H q f) (e : Ex H H') : Byr C H' q f := h.exN e.n
theorem FnAt.ex {f : Addr} (h : FnAt H f) (e : Ex H H') : FnAt H' f := h.exN e.n
end
end L3
end
section
namespace L3
open PySem PySem.Spec PySem.HandSPX
end L3
end
section
namespace L3
open PySem PySem.Spec PyProof.Rows L2 LamX
def LamF (f : Addr) (q : Str) (params : Arguments) (body : Expr) (scope : Scope) (c' : Addr) : HO := .ext fun h => ∃ pm ctv, h.get? f = some (PySem.W.kla_obj "<lambda>" q params body scope [] pm c' ctv)
/-- what is promised of such a lambda, wherever it is called -/
structure Lam1 (P : Program) (w : World) (K : PySem.W.Frag) (mg : Str → Option Value) (base : Heap) (k : Nat) (x : Str) (q : Str) (params : Arguments) (body : Expr) (scope : Scope) (sp : Sp) : Prop where
  bind : ∀ (pm cv ctv u : Value), bindArgs (PySem.W.kla_fn "<lambda>" q params body scope [] pm cv ctv) ⟨[u], []⟩ = pure [(x, u)]
  sc : FnScope [x] [x] scope
  body : ∀ (A : Around) (outer : List Env) (s : Shared) (H : Hp) (E : XK) (f c' : Addr) (v : V) (Q : VK), Room k (A.deeper (envOfC q scope s.heap.objs.size f (.ref c'))) → sp [v] H Q E → ∃ t, PE (cxOf CX0 P w K mg base [x] q scope f (.ref c') A outer s H E) body t ∧ t [some v] H Q
def LamAt (P : Program) (w : World) (K : PySem.W.Frag) (mg : Str → Option Value) (base : Heap) (k : Nat) (H : Hp) (f : Addr) (sp : Sp) : Prop :=
  ∃ (x q : Str) (params : Arguments) (body : Expr) (scope : Scope) (c' : Addr), H f = some (LamF f q params body scope c') ∧ H c' = some (CodeO c' q) ∧ Lam1 P w K mg base k x q params body scope sp
theorem LamAt.exN {P : Program} {w : World} {K : PySem.W.Frag} {mg : Str → Option Value} {base : Heap} {k : Nat} {H H' : Hp} {f : Addr} {sp : Sp} (h : LamAt P w K mg base k H f sp) (e : ExtN H H') : LamAt P w K mg base k H' f sp := by
  obtain ⟨x, q, params, body, scope, c', h1, h2, h3⟩ := h
  exact ⟨x, q, params, body, scope, c', e _ _ h1 (fun _ z => by unfold LamF at z; cases z), e _ _ h2 codeO_ne, h3⟩
theorem LamAt.keep {P : Program} {w : World} {K : PySem.W.Frag} {mg : Str → Option Value} {base : Heap} {k : Nat} {H H' : Hp} {f : Addr} {sp : Sp} (h : LamAt P w K mg base k H f sp) (e : ∀ b o, H b = some o → (∃ f q a b s c, o = LamF f q a b s c) ∨ (∃ c q, o = CodeO c q) → H' b = some o) : LamAt P w K mg base k H' f sp := by
  obtain ⟨x, q, params, body, scope, c', h1, h2, h3⟩ := h
  exact ⟨x, q, params, body, scope, c', e _ _ h1 (.inl ⟨_, _, _, _, _, _, rfl⟩), e _ _ h2 (.inr ⟨_, _, rfl⟩), h3⟩
def tCallF (P : Program) (w : World) (K : PySem.W.Frag) (mg : Str → Option Value) (base : Heap) (k : Nat) (tf : TE) (ta : TA) : TE := fun σ H Q =>
  tf σ H fun fv H1 => ∃ (f : Addr) (sp : Sp), fv = .ref f ∧ LamAt P w K mg base k H1 f sp ∧ ta σ H1 fun vs H2 => ∃ v, vs = [v] ∧ LamAt P w K mg base k H2 f sp ∧ sp [v] H2 Q (fun _ _ _ => False)
end L3
end
section
namespace L3
open PySem PySem.Spec PyProof.Rows L2 LamX
def ErAt (H : Hp) (a C : Addr) (fs : List (Str × V)) : Prop := (∃ d, H a = some (exo a C (some d)) ∧ H d = some (exd d fs)) ∨ (fs = [] ∧ H a = some (exo a C none))
theorem exo_tbl {e C : Addr} {d : Option Addr} : ∀ ps, exo e C d ≠ .tbl ps := fun _ z => by unfold exo at z; cases z
theorem exd_tbl {d : Addr} {fs : List (Str × V)} : ∀ ps, exd d fs ≠ .tbl ps := fun _ z => by unfold exd at z; cases z
theorem ErAt.exN {H H' : Hp} {a C : Addr} {fs : List (Str × V)} (h : ErAt H a C fs) (e : ExtN H H') : ErAt H' a C fs := by
  rcases h with ⟨d, h1, h2⟩ | ⟨h1, h2⟩
  · exact .inl ⟨d, e _ _ h1 exo_tbl, e _ _ h2 exd_tbl⟩
  · exact .inr ⟨h1, e _ _ h2 exo_tbl⟩
def tLstN (t : TA) : TE := fun σ H Q => t σ H fun xs H1 => xs.length ≤ sizeLine ∧ ∀ p, H1 p = none → p ≠ sysModules → ap Q (.ref p) (upd H1 p (.lst xs))
def litB : V → Bool
  | .int _ => true
  | .bl _ => true
  | .str _ => true
  | .non => true
  | _ => false
def litD : V → PyData
  | .int i => .int i
  | .bl b => .bool b
  | .str z => .str z
  | _ => .none
theorem readsFlat {h : Heap} : ∀ {xs : List V} {us : List Value}, Vals xs us → xs.all litB = true → ReadsAll h us (xs.map litD) []
  | [], _, r, _ => by cases r; exact .nil
  | x :: xs, _, r, hf => by
    cases r with
    | cons rx rs =>
      rw [List.all_cons, Bool.and_eq_true] at hf
      have ih := readsFlat (h := h) rs hf.2
      have one : ∀ {u : Value}, RelV x u → Reads h u (litD x) [] := fun {u} rx => by
        cases x with
        | int i => obtain ⟨t, rfl⟩ := rx; exact .int i t
        | bl b => cases (show u = Value.bool b from rx); exact .bool b
        | str z => obtain ⟨t, rfl⟩ := rx; exact .str z t
        | non => cases (show u = Value.none from rx); exact .none
        | _ => exact absurd hf.1 (by simp [litB])
      exact .cons (one rx) ih
inductive Vd (H : Hp) : V → PyData → Prop
  | non : Vd H .non .none
  | bl (b : Bool) : Vd H (.bl b) (.bool b)
  | int (i : Int) : Vd H (.int i) (.int i)
  | str (z : Str) : Vd H (.str z) (.str z)
  | tup {p : Addr} {xs : List V} : H p = some (.tup xs) → xs.all litB = true → Vd H (.ref p) (.tuple (xs.map litD))
  | lst {p : Addr} {xs : List V} : H p = some (.lst xs) → p ≠ sysModules → xs.all litB = true → Vd H (.ref p) (.list (xs.map litD))
  | d0 {p : Addr} : H p = some (.dK []) → Vd H (.ref p) (.dict [])
  | d1 {p : Addr} {k v : Str} : H p = some (.dK [(.inr k, .str v)]) → Vd H (.ref p) (.dict [(.str k, .str v)])
theorem Vd.map {H H' : Hp} {v : V} {d : PyData} (h : Vd H v d) (f : ∀ a o, v = .ref a → H a = some o → (∀ ps, o ≠ .tbl ps) → H' a = some o) : Vd H' v d := by
  cases h with
  | non => exact .non
  | bl b => exact .bl b
  | int i => exact .int i
  | str z => exact .str z
  | tup h1 h2 => exact .tup (f _ _ rfl h1 fun _ z => nomatch z) h2
  | lst h1 h2 h3 => exact .lst (f _ _ rfl h1 fun _ z => nomatch z) h2 h3
  | d0 h1 => exact .d0 (f _ _ rfl h1 fun _ z => nomatch z)
  | d1 h1 => exact .d1 (f _ _ rfl h1 fun _ z => nomatch z)
theorem Vd.exN {H H' : Hp} {v : V} {d : PyData} (h : Vd H v d) (e : ExtN H H') : Vd H' v d := h.map fun a o _ h n => e a o h n
theorem Vd.ex {H H' : Hp} {v : V} {d : PyData} (h : Vd H v d) (e : Ex H H') : Vd H' v d := h.exN e.n
theorem Vd.reads {X : Cx} {pins : List (Addr × Obj)} {σ : L2.St} {H : Hp} {s : Shared} {v : V} {d : PyData} {u : Value} (I : Inv X pins σ H s) (h : Vd H v d) (r : RelV v u) : ∃ as, Reads s.heap u d as ∧ sysModules ∉ as := by
  cases h with
  | non => cases (show u = Value.none from r); exact ⟨[], .none, by simp⟩
  | bl b => cases (show u = Value.bool b from r); exact ⟨[], .bool b, by simp⟩
  | int i => obtain ⟨t, rfl⟩ := r; exact ⟨[], .int i t, by simp⟩
  | str z => obtain ⟨t, rfl⟩ := r; exact ⟨[], .str z t, by simp⟩
  | @tup p xs h1 h2 =>
    cases (show u = Value.ref p from r)
    obtain ⟨_, its, rv, o, e1, e2, n, e3⟩ := (show ObjOk X.prog X.w H s.heap p (.tup xs) from I.hok p _ h1)
    exact ⟨[], .tuple e1 e2 e3 (by simpa using readsFlat rv h2), by simp⟩
  | @lst p xs h1 h2 h3 =>
    cases (show u = Value.ref p from r)
    obtain ⟨_, its, n, rv, e1⟩ := (show ObjOk X.prog X.w H s.heap p (.lst xs) from I.hok p _ h1)
    exact ⟨_, .list e1 rfl rfl (by simpa using readsFlat rv h3), by simpa using Ne.symm h2⟩
  | @d0 p h1 =>
    cases (show u = Value.ref p from r)
    obtain ⟨_, hs, vs, kv, hd⟩ := (show ObjOk X.prog X.w H s.heap p (.dK []) from I.hok p _ h1)
    cases kv
    obtain ⟨o, es, ep, e1, ⟨e2, _⟩, e3, _, e4, _⟩ := hd
    have e5 : es.toList = [] := by
      generalize es.toList = l at e4
      cases l with
      | nil => rfl
      | cons a b => cases e4
    exact ⟨_, .dict (as := []) (bs := []) e1 e2 e3 (by rw [e5]; exact .nil) (by rw [e5]; exact .nil), by simpa using Ne.symm (beq_eq_false_iff_ne.mp hs)⟩
  | @d1 p k v h1 =>
    cases (show u = Value.ref p from r)
    obtain ⟨_, hs, vs, kv, hd⟩ := (show ObjOk X.prog X.w H s.heap p (.dK [(.inr k, .str v)]) from I.hok p _ h1)
    obtain ⟨o, es, ep, e1, ⟨e2, _⟩, e3, _, e4, _⟩ := hd
    obtain ⟨k0, v0, rfl, hk0, rv⟩ : ∃ k0 v0, vs = [(k0, v0)] ∧ k0 = .inr k ∧ L2.RelV (.str v) v0 := by
      cases kv with
      | cons rv kv' => cases kv'; exact ⟨_, _, rfl, rv.1.symm, rv.2⟩
    subst hk0
    obtain ⟨e0, he, hk, hv⟩ : ∃ e0 : DictEntry, es.toList = [e0] ∧ (mixKind X.prog X.w).is (.inr k) e0.key = true ∧ e0.val = v0 := by
      generalize es.toList = l at e4
      cases l with
      | nil => cases e4
      | cons e l =>
        generalize hz : [((Sum.inr k : Key), v0)] = z at e4
        cases e4 with
        | cons h1 h2 h3 =>
          cases hz
          cases h3
          exact ⟨e, rfl, h1, h2⟩
    obtain ⟨t1, hk'⟩ : ∃ t1, e0.key = .str k t1 := by
      change keyIs (.inr k) e0.key = true at hk
      rcases keyIs_shape hk with ⟨i, t, z, _⟩ | ⟨x, t, z, z2⟩
      · cases z
      · cases z; exact ⟨t, z2⟩
    obtain ⟨t2, rfl⟩ := rv
    exact ⟨_, .dict (as := []) (bs := []) e1 e2 e3 (by rw [he]; show ReadsAll _ [e0.key] [.str k] []; rw [hk']; exact .cons (.str k t1) .nil) (by rw [he]; show ReadsAll _ [e0.val] [.str v] []; rw [hv]; exact .cons (.str v t2) .nil), by simpa using Ne.symm (beq_eq_false_iff_ne.mp hs)⟩
inductive VdAll (H : Hp) : List V → List PyData → Prop
  | nil : VdAll H [] []
  | cons {v : V} {d : PyData} {vs : List V} {ds : List PyData} : Vd H v d → VdAll H vs ds → VdAll H (v :: vs) (d :: ds)
theorem VdAll.exN {H H' : Hp} {vs : List V} {ds : List PyData} (h : VdAll H vs ds) (e : ExtN H H') : VdAll H' vs ds := by
  induction h with
  | nil => exact .nil
  | cons a _ b => exact .cons (a.exN e) b
theorem VdAll.reads {X : Cx} {pins : List (Addr × Obj)} {σ : L2.St} {H : Hp} {s : Shared} (I : Inv X pins σ H s) : ∀ {vs : List V} {ds : List PyData} {us : List Value}, VdAll H vs ds → Vals vs us → ∃ as, ReadsAll s.heap us ds as ∧ sysModules ∉ as
  | _, _, _, .nil, r => by cases r; exact ⟨[], .nil, by simp⟩
  | _, _, _, .cons a b, r => by
    cases r with
    | cons r1 r2 =>
      obtain ⟨as, h1, h2⟩ := a.reads I r1
      obtain ⟨bs, h3, h4⟩ := VdAll.reads I b r2
      exact ⟨_, .cons h1 h3, fun z => (List.mem_append.mp z).elim h2 h4⟩
end L3
end
section
namespace L3
open PySem PySem.Spec PyProof.Rows L2 LamX
section
variable {σ : L2.St} {H : Hp} {te : TE} {Q : VK} {K : PySem.W.Frag}
def spTell (K : PySem.W.Frag) (gs : List Str) : Sp := fun xs H Q _ => ∃ a C fs vs, xs = [.ref a] ∧ ErAt H a C fs ∧ XfC K C ∧ (∀ g ∈ gs, PySem.W.findIn K (.ref C) g = some none) ∧ gs.map (fun g => fs.lookup g) = vs.map some ∧ vs.length ≤ 1000 ∧
  ∀ p H', p ≠ sysModules → H p = none → Ex H H' → H' p = some (.lst vs) → Q (.ref p) H'
def spKind (K : PySem.W.Frag) (C : Addr) : Sp := fun xs H Q _ => ∃ a D fs b, xs = [.ref a] ∧ ErAt H a D fs ∧ ExcC K D ∧ PySem.W.kitOne K (.ref D) (.ref C) = some b ∧ Q (.bl b) H
/-- one row: an error, what tells it, what is due, its number -/
def Row (Lm : Hp → Addr → Sp → Prop) (K : PySem.W.Frag) (cs : List Addr) (v1 v2 : V) (H : Hp) (v : V) : Prop := ∃ t e f l j fs gs vs, v = .ref t ∧ H t = some (.tup [.ref e, .ref f, .ref l, .int ((j : Nat) : Int)]) ∧ j < 26 ∧ ErAt H e (cs.getD j 0) fs ∧ Lm H f (spTell K gs) ∧ H l = some (.lst vs) ∧ l ≠ sysModules ∧
  (∀ g ∈ gs, PySem.W.findIn K (.ref (cs.getD j 0)) g = some none) ∧ gs.map (fun g => fs.lookup g) = vs.map some ∧ (∀ x ∈ vs, x = v1 ∨ x = v2) ∧ vs.length ≤ 2
theorem Row.exN {Lm : Hp → Addr → Sp → Prop} (hL : ∀ H H' f sp, Lm H f sp → ExtN H H' → Lm H' f sp) {cs : List Addr} {v1 v2 : V} {H H' : Hp} {v : V} (h : Row Lm K cs v1 v2 H v) (e : ExtN H H') : Row Lm K cs v1 v2 H' v := by
  obtain ⟨t, e0, f, l, j, fs, gs, vs, h1, h2, h3, h4, h5, h6, h7⟩ := h
  exact ⟨t, e0, f, l, j, fs, gs, vs, h1, e _ _ h2 (fun _ z => nomatch z), h3, h4.exN e, hL _ _ _ _ h5 e, e _ _ h6 (fun _ z => nomatch z), h7⟩
end
section
variable {σ : L2.St} {H : Hp} {Q : VK} {K : PySem.W.Frag}
theorem s_lstN {t : TA} (h : t σ H fun xs H1 => xs.length ≤ sizeLine ∧ ∀ p, H1 p = none → p ≠ sysModules → ap Q (.ref p) (upd H1 p (.lst xs))) : tLstN t σ H Q := h
theorem s_callF {P : Program} {w : World} {mg : Str → Option Value} {base : Heap} {k : Nat} {tf : TE} {ta : TA} (h : tf σ H fun fv H1 => ∃ (f : Addr) (sp : Sp), fv = .ref f ∧ LamAt P w K mg base k H1 f sp ∧ ta σ H1 fun vs H2 => ∃ v, vs = [v] ∧ LamAt P w K mg base k H2 f sp ∧ sp [v] H2 Q (fun _ _ _ => False)) : tCallF P w K mg base k tf ta σ H Q := h
def KindsAt (Lm : Hp → Addr → Sp → Prop) (K : PySem.W.Frag) (cs : List Addr) (H : Hp) (l : Addr) : Prop := ∃ xs, H l = some (.lst xs) ∧ xs.length = 26 ∧ ∀ j, j < 26 → ∃ f, xs[j]? = some (.ref f) ∧ Lm H f (spKind K (cs.getD j 0))
theorem KindsAt.exN {Lm : Hp → Addr → Sp → Prop} (hL : ∀ H H' f sp, Lm H f sp → ExtN H H' → Lm H' f sp) {cs : List Addr} {H H' : Hp} {l : Addr} (h : KindsAt Lm K cs H l) (e : ExtN H H') : KindsAt Lm K cs H' l := by
  obtain ⟨xs, h1, h2, h3⟩ := h
  exact ⟨xs, e _ _ h1 (fun _ z => nomatch z), h2, fun j hj => (h3 j hj).imp fun f h => ⟨h.1, hL _ _ _ _ h.2 e⟩⟩
end
end L3
end
section
namespace L3
open PySem PySem.Spec PyProof.Rows L2 LamX
inductive Pq (K : PySem.W.Frag) (H : Hp) : V → V → Bool → Prop
  | dat {x y : V} {d e : PyData} : Dp K H x d → Dp K H y e → SeqAt.shaped d = true → SeqAt.shaped e = true → Pq K H x y (PyData.eqv d e)
  | d0 {p : Addr} : H p = some (.dK []) → Pq K H (.ref p) (.ref p) true
  | d1 {p : Addr} {k v : Str} : H p = some (.dK [(.inr k, .str v)]) → Pq K H (.ref p) (.ref p) true
end L3
end
section
namespace L3
open PySem PySem.Spec PyProof.Rows L2 LamX
section
variable {K : PySem.W.Frag} {σ : L2.St} {H H' : Hp} {Q : VK} {C : Addr}
def PaAt (H : Hp) (q C : Addr) (fs : List (Str × V)) : Prop := ∃ dx, H q = some (.ins C dx fs)
theorem PaAt.exN {q : Addr} {fs : List (Str × V)} (h : PaAt H q C fs) (e : ExtN H H') : PaAt H' q C fs := h.imp fun _ h => e _ _ h fun _ z => nomatch z
theorem PaAt.ex {q : Addr} {fs : List (Str × V)} (h : PaAt H q C fs) (e : Ex H H') : PaAt H' q C fs := h.exN e.n
end
section
variable {K : PySem.W.Frag} {σ : L2.St} {H H' : Hp} {Q : VK} {C : Addr}
theorem Pq.ex {x y : V} {b : Bool} (h : Pq K H x y b) (e : Ex H H') : Pq K H' x y b := by
  have sl : ∀ a xs, SqL K H a xs → SqL K H' a xs := fun a xs h => by
    rcases h with (h | ⟨o, h⟩) | h
    · exact .inl (.inl (e _ _ h))
    · exact .inl (.inr ⟨o, e _ _ h⟩)
    · exact .inr h
  have st : ∀ a xs, SqT K H a xs → SqT K H' a xs := fun a xs h => by
    rcases h with (h | ⟨o, h⟩) | h
    · exact .inl (.inl (e _ _ h))
    · exact .inl (.inr ⟨o, e _ _ h⟩)
    · exact .inr h
  cases h with
  | dat h1 h2 h3 h4 => exact .dat (Dp.exN e.n _ _ sl st h1) (Dp.exN e.n _ _ sl st h2) h3 h4
  | d0 h => exact .d0 (e _ _ h)
  | d1 h => exact .d1 (e _ _ h)
def spTellP (K : PySem.W.Frag) (gs : List Str) : Sp := fun xs H Q _ => ∃ a C fs vs, xs = [.ref a] ∧ PaAt H a C fs ∧ Cls K C ∧ (∀ g ∈ gs, NoAttr K C g) ∧ gs.map (fun g => fs.lookup g) = vs.map some ∧
  ∀ p H', p ≠ sysModules → H p = none → Ex H H' → H' p = some (.lst vs) → Q (.ref p) H'
structure RowD where
  c : Nat
  fs : List (Str × V)
  gs : List Str
  vs : List V
  B : V
def RowAt (Lm : Hp → Addr → Sp → Prop) (K : PySem.W.Frag) (cs : List Addr) (H : Hp) (x : V) (r : RowD) : Prop := ∃ t e f l, x = .ref t ∧ H t = some (.tup [.ref e, .ref f, .ref l, r.B]) ∧ PaAt H e (cs.getD r.c 0) r.fs ∧ Lm H f (spTellP K r.gs) ∧ H l = some (.lst r.vs) ∧ l ≠ sysModules
theorem RowAt.exN {Lm : Hp → Addr → Sp → Prop} (hL : ∀ H H' f sp, Lm H f sp → ExtN H H' → Lm H' f sp) {cs : List Addr} {x : V} {r : RowD} (h : RowAt Lm K cs H x r) (e : ExtN H H') : RowAt Lm K cs H' x r := by
  obtain ⟨t, e0, f, l, h1, h2, h3, h4, h5, h6⟩ := h
  exact ⟨t, e0, f, l, h1, e _ _ h2 (fun _ z => nomatch z), h3.exN e, hL _ _ _ _ h4 e, e _ _ h5 (fun _ z => nomatch z), h6⟩
end
end L3
end
section
namespace L3
open PySem PySem.Calls PyProof.Rows
end L3
namespace L3
open PySem PySem.Spec PyProof.Rows L2 LamX StX RZ
structure McR (P : Program) (w : World) (K : PySem.W.Frag) (mg : Str → Option Value) (base : Heap) (CX : CXT) (k : Nat) (x : Str) (C : Addr) (sp : Sp) : Prop where
  ex : ∃ f, FnR P w K mg base CX k f sp ∧ mg x = some (.ref C) ∧ Mk K C f
section
variable {X : Cx} {CX : CXT} {k j : Nat} {C : Addr} {sp : Sp} {E : XK} {x : Str} {e e2 : Expr} {es : List Expr} {te : TE} {t : TA} {p sp_ pos : Pos}
theorem pe_mkR (c : McR X.prog X.w X.K X.mg X.base CX k x C sp) (hr : Room j X.A) (hx : Passes CX X E) (ha : PA X (e :: es) t) (hk : k + 1 ≤ j := by decide) (gl : Gl X x := by rfl)
    (hdb : (x == ("__debug__" : Str)) = false := by decide) (he : starEach (e :: es) X.env = (false, eval e X.env) :: starEach es X.env := by rfl) (hpl : (backTo pos (starEach es X.env)).any (·.1) = false := by rfl) : PE X (.Call (.Name x p) (e :: es) [] pos) (tMakeR C sp E t) := by
  obtain ⟨f, F, m, M⟩ := c.ex
  exact pe_makeR M F (hr.mono hk) gl m hx ha hdb he hpl
theorem pe_mkR0 (c : McR X.prog X.w X.K X.mg X.base CX k x C sp) (hr : Room j X.A) (hx : Passes CX X E) (hk : k + 1 ≤ j := by decide) (gl : Gl X x := by rfl)
    (hdb : (x == ("__debug__" : Str)) = false := by decide) : PE X (.Call (.Name x p) [] [] pos) (tMakeR C sp E tNil) := by
  obtain ⟨f, F, m, M⟩ := c.ex
  refine ⟨fun pins s σ H Q I h => ?_⟩
  exact wpAny_Call_Name_kw (ld_glob I gl m (PySem.W.callWith_K0 I.kIn M.kp (run_makeR (us := []) (vs := []) M F (hr.mono hk) hx I .nil h)) hdb)
theorem pe_mkRS (c : McR X.prog X.w X.K X.mg X.base CX k x C sp) (hr : Room j X.A) (hx : Passes CX X E) (he : PE X e te) (hk : k + 1 ≤ j := by decide) (gl : Gl X x := by rfl)
    (hdb : (x == ("__debug__" : Str)) = false := by decide) (hst : starEach [.Starred e sp_] X.env = [(true, eval e X.env)] := by rfl) : PE X (.Call (.Name x p) [.Starred e sp_] [] pos) (tMakeR C sp E (tStar X.K te tNil)) := by
  obtain ⟨f, F, m, M⟩ := c.ex
  refine ⟨fun pins s σ H Q I h => ?_⟩
  refine wpAny_Call_Name_kw (ld_glob I gl m ?_ hdb)
  refine PySem.W.callWith_S (h₀ := X.base) I.ok.mod.kin M.kp (thn (he.run pins s σ H _ I h) fun v s1 ⟨y, H1, I1, ry, a, xs, ey, hxs, q⟩ => ?_) hst
  subst ey
  obtain rfl : v = Value.ref a := ry
  refine star_any I1 hxs fun us s2 I2 rv => ⟨I2.kIn, ?_⟩
  have q' := q
  unfold tNil at q'
  dsimp only at q'
  rw [List.append_nil] at q'
  exact run_makeR M F (hr.mono hk) hx I2 rv q'
end
/-- the promise of an __init__(self, *xs), by that of its body -/
def spSt (sp : Sp) : Sp := fun vs H Q E => ∃ ws rest, vs = ws ++ rest ∧ ws.length = 1 ∧ rest.length ≤ sizeLine ∧ ∀ p, H p = none → sp (ws ++ [V.ref p]) (upd H p (.tup rest)) Q E
section
variable {K : PySem.W.Frag} {σ : L2.St} {H : Hp} {Q : VK} {te ta : TE} {t : TA} {C : Addr} {sp : Sp} {E : XK}
theorem s_star {R : List V → Hp → Prop} (h : te σ H fun x H1 => ∃ p xs, x = V.ref p ∧ (SqT K H1 p xs ∨ SqL K H1 p xs) ∧ t σ H1 fun ys H2 => R (xs ++ ys) H2) : tStar K te t σ H R := h
theorem s_mkCR (h : t σ H fun vs H1 => ∀ x dx, H1 x = none → H1 dx = none → dx ≠ x → sp (V.ref x :: vs) (upd (upd H1 dx (.own x)) x (.ins C dx [])) (fun v H2 => v = .non ∧ ap Q (.ref x) H2) E) : tMakeR C sp E t σ H Q := h
end
/-- a def with one parameter ahead of *xs -/
theorem funStar {P : Program} {w : World} {K : PySem.W.Frag} {mg : Str → Option Value} {base : Heap} {k : Nat} {x qual : Str} {st : Stmt} {f : Addr} {fd : FuncData} {N : List Str} {p1 pv : Str} {sp : Sp} (F : L2.Fun K x qual st f fd) (S : FnScope N [p1, pv] (defScope st))
    (h0 : ∀ (kV doc pm : Value) (an : Option Addr) (cdv ct : Value) a, bindArgs (PySem.W.fnOf x qual (defArgs st) (defBody st) (defScope st) .none kV doc pm an cdv ct) ⟨[a], []⟩ = (newTuple [] >>= fun t => pure [(p1, a), (pv, t)]))
    (h1 : ∀ (kV doc pm : Value) (an : Option Addr) (cdv ct : Value) a r rs, bindArgs (PySem.W.fnOf x qual (defArgs st) (defBody st) (defScope st) .none kV doc pm an cdv ct) ⟨a :: r :: rs, []⟩ = (newTuple (r :: rs) >>= fun t => pure [(p1, a), (pv, t)]))
    (body : ∀ (cd : Value) (A : Around) (fr : List Env) (s : Shared) (H : Hp) (vs : List V) (Q : VK) (E : XK), Room k (A.deeper (envOfC qual (defScope st) s.heap.objs.size f cd)) → sp vs H Q E →
      ∃ t, PSs (cxOf (L2.CX P w) P w K mg base N qual (defScope st) f cd A fr s H E) (defBody st) t ∧ t { nx := fun _ H' => Q .non H', rt := Q } (L2.start N vs) H) :
    FnR P w K mg base (L2.CX P w) (k + 1) f (spSt sp) := by
  obtain ⟨oc, od, kV, doc, pm, an, cd, ct, sl, rfl, lk, hcd⟩ := F.ex
  exact fn_star (ps := [p1]) (pv := pv) lk hcd S cxUp (bind_star1 (B := fun us => bindArgs (PySem.W.fnOf x qual (defArgs st) (defBody st) (defScope st) .none kV doc pm an cd ct) ⟨us, []⟩) (h0 kV doc pm an cd ct) (h1 kV doc pm an cd ct)) fun A outer s H vs Q E hr h => body cd A outer s H vs Q E hr h
theorem TyA.exN {K : PySem.W.Frag} {H H' : Hp} {v : V} {t : Value} (h : TyA K H v t) (e : ExtN H H') : TyA K H' v t := by
  cases h with
  | x h =>
    refine .x ?_
    cases h with
    | base h =>
      refine .base ?_
      cases h with
      | non => exact .non
      | bl b => exact .bl b
      | int i => exact .int i
      | str z => exact .str z
      | flt z => exact .flt z
      | lst h => exact .lst (e _ _ h fun _ z => nomatch z)
      | frz h => exact .frz (e _ _ h fun _ z => nomatch z)
      | tup h => exact .tup (e _ _ h fun _ z => nomatch z)
      | dK h => exact .dK (e _ _ h fun _ z => nomatch z)
      | dT h => exact .dT (e _ _ h fun _ z => nomatch z)
      | ins h a b c d f => exact .ins (e _ _ h fun _ z => nomatch z) a b c d f
    | byt b => exact .byt b
    | set h => exact .set (e _ _ h fun _ z => nomatch z)
    | kList h c => exact .kList h c
    | kTuple h c => exact .kTuple h c
    | kDict h c => exact .kDict h c
    | fTuple h => exact .fTuple (e _ _ h fun _ z => nomatch z)
    | fDict h => exact .fDict (e _ _ h fun _ z => nomatch z)
  | fn h => exact .fn (e _ _ h fun _ z => by unfold FnV at z; cases z)
/-- a value that is no number -/
def NI (K : PySem.W.Frag) (H : Hp) (v : V) : Prop := (∃ b, v = .bl b) ∨ ∃ ty, TyA K H v ty ∧ PySem.W.kitOne K ty (.type "int") = some false
/-- a value that is none of a class -/
def NC (K : PySem.W.Frag) (H : Hp) (u : Value) (v : V) : Prop := ∃ ty, TyA K H v ty ∧ PySem.W.kitOne K ty u = some false
theorem NI.exN {K : PySem.W.Frag} {H H' : Hp} {v : V} (h : NI K H v) (e : ExtN H H') : NI K H' v := h.imp id fun ⟨ty, a, b⟩ => ⟨ty, a.exN e, b⟩
theorem NC.exN {K : PySem.W.Frag} {H H' : Hp} {u : Value} {v : V} (h : NC K H u v) (e : ExtN H H') : NC K H' u v := by
  obtain ⟨ty, a, b⟩ := h
  exact ⟨ty, a.exN e, b⟩
/-- no number, or one beyond its bounds -/
def OutS (K : PySem.W.Frag) (H : Hp) (x : V) (a b : Int) : Prop := NI K H x ∨ ∃ i, x = .int i ∧ ¬ (a ≤ i ∧ i ≤ b)
theorem OutS.exN {K : PySem.W.Frag} {H H' : Hp} {x : V} {a b : Int} (h : OutS K H x a b) (e : ExtN H H') : OutS K H' x a b := h.imp (fun h => h.exN e) id
def spIsI2 (K : PySem.W.Frag) : Sp := fun vs H Q _ => ∃ x, vs = [x] ∧ ((∃ i, x = .int i ∧ Q (.bl true) H) ∨ (NI K H x ∧ Q (.bl false) H))
def spWithin2 (K : PySem.W.Frag) : Sp := fun vs H Q _ => ∃ x a b, vs = [x, .int a, .int b] ∧ ((∃ i, x = .int i ∧ a ≤ i ∧ i ≤ b ∧ Q (.bl true) H) ∨ (OutS K H x a b ∧ Q (.bl false) H))
def spSize2 (K : PySem.W.Frag) : Sp := fun vs H Q _ => ∃ x, vs = [x] ∧ ((∃ i, x = .int i ∧ 1 ≤ i ∧ i ≤ 10 ^ 30 ∧ Q (.bl true) H) ∨ (OutS K H x 1 (10 ^ 30) ∧ Q (.bl false) H))
section
variable {K : PySem.W.Frag} {σ : L2.St} {H : Hp} {Q : VK}
theorem s_lcZ {te : TE} {g : TG} {tt : TT} {vs : List Nat} {ta : TA} (h : ta σ H fun ws H1 => ∃ a b xs ys, ws = [.ref a, .ref b] ∧ ((SqL K H1 a xs ∧ SqL K H1 b ys ∧ LC (Itz K a b) g tt te vs σ H1 Q) ∨ (SqT K H1 a xs ∧ SqT K H1 b ys ∧ LC (ItzT K a b) g tt te vs σ H1 Q))) : tLc (iZipA K ta) g tt te vs σ H Q := h
theorem walk_zipT {a b : Addr} {xs ys : List V} {n : Nat} (hn : n = min xs.length ys.length) : L2.Walk (ItzT K a b) n (fun H => SqT K H a xs ∧ SqT K H b ys) (YPair (fun i => xs[i]?) (fun i => ys[i]?)) := by
  subst hn
  refine ⟨fun i _ hi q => ?_, fun _ q => ⟨xs, ys, q.1, q.2, by omega⟩, fun i H v H' _ q y => ?_⟩
  · have h1 : i < xs.length := by omega
    have h2 : i < ys.length := by omega
    exact ⟨xs, ys, xs[i], ys[i], q.1, q.2, by simp [h1], by simp [h2]⟩
  · obtain ⟨T, x, z, h1, h2, h3, h4, h5⟩ := y
    exact ⟨T, x, z, h1, h2, h3, h4 xs q.1, h5 ys q.2⟩
/-- [f(x, y) for x, y in zip(t, u)], t and u tuples -/
theorem lcZT {a b : Addr} {xs ys : List V} {i j : Nat} {te : TE} {vs : List Nat} (f : Nat → V) (hl : xs.length = ys.length) (ha : H a = some (.tup xs)) (hb : H b = some (.tup ys)) (hz : xs.length < sizeLine)
    (hw : ∀ x y, wipe (((wipe σ vs).set i (some x)).set j (some y)) vs = wipe σ vs)
    (he : ∀ (n : Nat) (x y : V) (H1 : Hp) (R : VK), xs[n]? = some x → ys[n]? = some y → Ex H H1 → R (f n) H1 → te (((wipe σ vs).set i (some x)).set j (some y)) H1 R)
    (k : ∀ D H2, H D = none → Ex H H2 → H2 D = some (.lst ((List.range xs.length).map f)) → Q (.ref D) H2) :
    LC (ItzT K a b) (gTup K 2 (gCons (gName i) (gCons (gName j) gNil))) tYes te vs σ H Q := by
  intro D hD
  refine lc_it (walk_zipT (n := xs.length) (by rw [← hl, Nat.min_self])) (fun n H1 => Ex H H1 ∧ H1 D = some (.lst ((List.range n).map f))) ⟨ex_new hD, upd_same⟩ (fun n H1 _ ⟨e, _⟩ => ⟨.inl (.inl (e _ _ ha)), .inl (.inl (e _ _ hb))⟩) ?_ (fun H1 ⟨e, h1⟩ => k D H1 hD e h1)
  rintro n x H1 H2 hn ⟨e, h1⟩ ⟨T, x', y', rfl, hT, rfl, hx, hy⟩
  have e2 : Ex H1 (upd H1 T (.tup [x', y'])) := ex_new hT
  refine s_gT (xs := [x', y']) upd_same rfl ?_
  refine s_gC (s_gC (s_gN ?_))
  refine ⟨hw _ _, ?_⟩
  unfold tYes
  dsimp only
  refine iteT (he n x' y' _ _ hx hy (e.trans e2) ⟨_, e2 _ _ h1, ?_, fun c o hc => ?_, ?_⟩)
  · rw [List.length_map, List.length_range]; omega
  · rw [upd_ne (ne_of_none hc hD)]; exact e2 _ _ (e _ _ hc)
  · rw [upd_same, List.range_succ, List.map_append]; rfl
end
def siz (n : Int) : Prop := 1 ≤ n ∧ n ≤ 10 ^ 30
def endsF : Int → List Int → List Int
  | _, [] => []
  | a, n :: r => (a + n) :: endsF (a + n) r
def endsOf (ns : List Int) : List Int := endsF 0 ns
theorem endsF_len : ∀ (ns : List Int) (a : Int), (endsF a ns).length = ns.length
  | [], _ => rfl
  | n :: r, a => by rw [endsF, List.length_cons, endsF_len r, List.length_cons]
theorem endsF_snoc : ∀ (ns : List Int) (a n : Int), endsF a (ns ++ [n]) = endsF a ns ++ [a + ns.sum + n]
  | [], a, n => by simp [endsF]
  | m :: r, a, n => by
    rw [List.cons_append, endsF, endsF, endsF_snoc r, List.cons_append, List.sum_cons, Int.add_assoc a m]
theorem endsOf_len (ns : List Int) : (endsOf ns).length = ns.length := endsF_len ns 0
theorem endsOf_snoc (ns : List Int) (n : Int) : endsOf (ns ++ [n]) = endsOf ns ++ [ns.sum + n] := by
  have := endsF_snoc ns 0 n
  rw [Int.zero_add] at this
  exact this
theorem take_snoc {α : Type} {l : List α} {i : Nat} {x : α} (h : l[i]? = some x) : l.take (i + 1) = l.take i ++ [x] := by
  rw [List.take_add_one, h]; rfl
def restsOf (ns : List Int) : List Int := (List.range ns.length).map fun i => ns.sum - (endsOf ns).getD i 0 + ns.getD i 0
def ckF (t1 t2 t3 : Addr) (tot : Int) : List (Str × V) := putF "rests" (.ref t3) (putF "total" (.int tot) (putF "ends" (.ref t2) (putF "sizes" (.ref t1) [])))
def Ck (C : Addr) (H : Hp) (q : Addr) (ns : List Int) : Prop := ∃ dx t1 t2 t3, H q = some (.ins C dx (ckF t1 t2 t3 ns.sum)) ∧ H t1 = some (.tup (ns.map V.int)) ∧ H t2 = some (.tup ((endsOf ns).map V.int)) ∧ H t3 = some (.tup ((restsOf ns).map V.int))
theorem Ck.exN {C : Addr} {H H' : Hp} {q : Addr} {ns : List Int} (h : Ck C H q ns) (e : ExtN H H') : Ck C H' q ns := by
  obtain ⟨dx, t1, t2, t3, a, b, c, d⟩ := h
  exact ⟨dx, t1, t2, t3, e _ _ a (fun _ z => nomatch z), e _ _ b (fun _ z => nomatch z), e _ _ c (fun _ z => nomatch z), e _ _ d (fun _ z => nomatch z)⟩
theorem Ck.ex {C : Addr} {H H' : Hp} {q : Addr} {ns : List Int} (h : Ck C H q ns) (e : Ex H H') : Ck C H' q ns := h.exN e.n
theorem Rz.ex' {C : Addr} {g : Str} {v : V} {H H' : Hp} {E : XK} (h : Rz C g v H E) (e : Ex H H') : Rz C g v H' E := fun d H2 hd e2 hx => h d H2 (e.free hd) (e.trans e2) hx
/-- what Chunks(*xs) comes to -/
def CkG (K : PySem.W.Frag) (CB CM : Addr) (H : Hp) (xs : List V) (G : List Int → Prop) (E : XK) : Prop := xs.length ≤ 100000 ∧
  ((∃ ns : List Int, xs = ns.map V.int ∧ (∀ n ∈ ns, siz n) ∧ ((ns.length ≤ 5000 ∧ G ns) ∨ (5000 < ns.length ∧ Rz2 CM "what" "most" (.str "chunks") (.int 5000) H E))) ∨
   ∃ (ns : List Int) (z : V) (rest : List V), xs = ns.map V.int ++ z :: rest ∧ (∀ n ∈ ns, siz n) ∧ OutS K H z 1 (10 ^ 30) ∧ Rz CB "value" z H E)
theorem CkG.ex {K : PySem.W.Frag} {CB CM : Addr} {H H' : Hp} {xs : List V} {G G' : List Int → Prop} {E : XK} (h : CkG K CB CM H xs G E) (e : Ex H H') (g : ∀ ns, G ns → G' ns) : CkG K CB CM H' xs G' E := by
  obtain ⟨h0, ⟨ns, h1, h2, h3⟩ | ⟨ns, z, rest, h1, h2, h3, h4⟩⟩ := h
  · exact ⟨h0, .inl ⟨ns, h1, h2, h3.imp (fun ⟨a, b⟩ => ⟨a, g _ b⟩) fun ⟨a, b⟩ => ⟨a, b.ex e⟩⟩⟩
  · exact ⟨h0, .inr ⟨ns, z, rest, h1, h2, h3.exN e.n, h4.ex' e⟩⟩
def spCk0 (K : PySem.W.Frag) (C CB CM : Addr) : Sp := fun vs H Q E => ∃ p dx t xs, vs = [.ref p, .ref t] ∧ H p = some (.ins C dx []) ∧ t ≠ p ∧ H t = some (.tup xs) ∧ CkG K CB CM H xs (fun ns => ∀ H', (∀ c o, c ≠ p → H c = some o → H' c = some o) → Ck C H' p ns → Q .non H') E
abbrev spCk (K : PySem.W.Frag) (C CB CM : Addr) : Sp := spSt (spCk0 K C CB CM)
def spNeedSize (K : PySem.W.Frag) (CB : Addr) : Sp := fun vs H Q E => ∃ x, vs = [x] ∧ ((∃ i, x = .int i ∧ siz i ∧ Q .non H) ∨ (OutS K H x 1 (10 ^ 30) ∧ Rz CB "value" x H E))
def spNeedFew (CM : Addr) : Sp := fun vs H Q E => ∃ n, vs = [.int n] ∧ ((n ≤ 5000 ∧ Q .non H) ∨ (5000 < n ∧ Rz2 CM "what" "most" (.str "chunks") (.int 5000) H E))
def spEnds : Sp := fun vs H Q _ => ∃ t ns, vs = [.ref t] ∧ H t = some (.tup ((ns : List Int).map V.int)) ∧ ns.length ≤ 100000 ∧ ∀ p H', H p = none → Ex H H' → H' p = some (.tup ((endsOf ns).map V.int)) → Q (.ref p) H'
theorem s_mkCk {K : PySem.W.Frag} {C CB CM : Addr} {H : Hp} {Q : VK} {E : XK} {xs : List V} (h : CkG K CB CM H xs (fun ns => ∀ q H', H q = none → Ex H H' → Ck C H' q ns → Q (.ref q) H') E) :
    ∀ x dx, H x = none → H dx = none → dx ≠ x → spCk K C CB CM (V.ref x :: xs) (upd (upd H dx (.own x)) x (.ins C dx [])) (fun v H2 => v = .non ∧ ap Q (.ref x) H2) E := by
  intro x dx hx hd hn
  have e1 : Ex H (upd (upd H dx (.own x)) x (.ins C dx [])) := fun c o hc => by
    rw [upd_ne (ne_of_none hc hx), upd_ne (ne_of_none hc hd)]; exact hc
  refine ⟨[.ref x], xs, rfl, rfl, Nat.le_trans h.1 (by decide), fun t ht => ?_⟩
  have e2 := e1.trans (ex_new (o := .tup xs) ht)
  have hxt : x ≠ t := fun z => by rw [← z, upd_same] at ht; cases ht
  refine ⟨x, dx, t, xs, rfl, by rw [upd_ne hxt, upd_same], hxt.symm, upd_same, h.ex e2 fun ns g H' k hc => ⟨rfl, g x H' hx (fun c o hc => k c o (ne_of_none hc hx) (e2 _ _ hc)) hc⟩⟩
end L3
end
section
namespace L3
open PySem PySem.Spec PyProof.Rows L2 LamX
structure ClT (K : PySem.W.Frag) (mg : Str → Option Value) (x : Str) (C : Addr) : Prop where
  g : ∃ u, mg x = some u ∧ RelV (.ref C) u
  cl : Cls K C
  kC : PySem.W.kitOne K (.ref C) (.ref C) = some true
  ha : PySem.W.findIn K (.ref C) "__class__" = some (some (.builtin "object.__class__"))
  hn : PySem.W.specialIn K (.builtin "object.__class__") "__get__" = some (some (.builtin "getset_descriptor.__get__"))
  htk : PySem.W.takesIn K (.builtin "object.__class__") = some true
  hm : PySem.W.mroIn K C (.type "object") = some true
theorem ClT.ty {K : PySem.W.Frag} {mg : Str → Option Value} {x : Str} {C : Addr} (T : ClT K mg x C) {H : Hp} {p dx : Addr} {fs : List (Str × V)} (e : H p = some (.ins C dx fs)) : TyA K H (.ref p) (.ref C) := .x (.base (.ins e T.cl T.ha T.hn T.htk T.hm))
structure ErT (K : PySem.W.Frag) (mg : Str → Option Value) (x : Str) (C CL : Addr) (fs : List Str) : Prop where
  g : ∃ u, mg x = some u ∧ RelV (.ref C) u
  exc : ExcC K C
  xf : XfC K C
  nV : ∀ f ∈ fs, PySem.W.findIn K (.ref C) f = some none
  kB : PySem.W.kitOne K (.ref C) (.ref C) = some true
  em : PySem.W.exmOne K (.ref C) (.ref CL) = some true
  kV : PySem.W.kitOne K (.ref C) (.type "ValueError") = some true
/-- neither a list nor a tuple -/
def NLT (K : PySem.W.Frag) (H : Hp) (v : V) : Prop := ∃ t, TyX K H v t ∧ PySem.W.kitAny K t [.type "list", .type "tuple"] = some false
theorem TyX.exN {K : PySem.W.Frag} {H H' : Hp} {v : V} {t : Value} (h : TyX K H v t) (e : ExtN H H') : TyX K H' v t := by
  cases h with
  | base h =>
    refine .base ?_
    cases h with
    | non => exact .non
    | bl b => exact .bl b
    | int i => exact .int i
    | str z => exact .str z
    | flt z => exact .flt z
    | lst h => exact .lst (e _ _ h fun _ z => nomatch z)
    | frz h => exact .frz (e _ _ h fun _ z => nomatch z)
    | tup h => exact .tup (e _ _ h fun _ z => nomatch z)
    | dK h => exact .dK (e _ _ h fun _ z => nomatch z)
    | dT h => exact .dT (e _ _ h fun _ z => nomatch z)
    | ins h a b c d f => exact .ins (e _ _ h fun _ z => nomatch z) a b c d f
  | byt b => exact .byt b
  | set h => exact .set (e _ _ h fun _ z => nomatch z)
  | kList h c => exact .kList h c
  | kTuple h c => exact .kTuple h c
  | kDict h c => exact .kDict h c
  | fTuple h => exact .fTuple (e _ _ h fun _ z => nomatch z)
  | fDict h => exact .fDict (e _ _ h fun _ z => nomatch z)
theorem NLT.exN {K : PySem.W.Frag} {H H' : Hp} {v : V} (h : NLT K H v) (e : ExtN H H') : NLT K H' v := by
  obtain ⟨t, a, b⟩ := h
  exact ⟨t, L3.TyX.exN a e, b⟩
def spOf (K : PySem.W.Frag) (C CB CC CM : Addr) : Sp := fun vs H Q E => ∃ x, vs = [x] ∧ ((∃ a xs, x = .ref a ∧ (H a = some (.lst xs) ∨ H a = some (.tup xs)) ∧ CkG K CB CM H xs (fun ns => ∀ q H', Ex H H' → Ck C H' q ns → Q (.ref q) H') E) ∨ (NLT K H x ∧ Rz CC "part" (.str "sizes") H E))
/-- own == of lists of chunks -/
def spCkEq (K : PySem.W.Frag) (C : Addr) : Sp := fun vs H Q _ => ∃ p y ns, vs = [.ref p, y] ∧ Ck C H p ns ∧ ((∃ q ms, y = .ref q ∧ Ck C H q ms ∧ Q (.bl (decide (ns = ms))) H) ∨ (NC K H (.ref C) y ∧ Q (.bl false) H))
section
variable {K : PySem.W.Frag} {H H' : Hp} {Q : VK} {C CB CM : Addr} {E : XK}
theorem get_int {ns : List Int} {i : Nat} {x : V} (h : (ns.map V.int)[i]? = some x) : ∃ n, ns[i]? = some n ∧ x = .int n := by
  rw [List.getElem?_map] at h
  cases e : ns[i]? with
  | none => rw [e] at h; cases h
  | some n => rw [e] at h; cases h; exact ⟨n, rfl, rfl⟩
theorem sz100k {n : Nat} (h : n ≤ 100000) : n < sizeLine := Nat.lt_of_le_of_lt h (by decide)
theorem endsOf_take (ns : List Int) : ∀ i, i ≤ ns.length → endsOf (ns.take i) = (endsOf ns).take i := by
  have h : ∀ (ns : List Int) (a : Int) (i : Nat), endsF a (ns.take i) = (endsF a ns).take i := by
    intro ns
    induction ns with
    | nil => intro a i; simp [endsF]
    | cons n r ih =>
      intro a i
      cases i with
      | zero => rfl
      | succ i => rw [List.take_succ_cons, endsF, endsF, List.take_succ_cons, ih]
  exact fun i _ => h ns 0 i
theorem endsOf_get {ns : List Int} {i : Nat} (h : i < ns.length) : (endsOf ns)[i]? = some ((ns.take (i + 1)).sum) := by
  have hx : ns[i]? = some ns[i] := List.getElem?_eq_getElem h
  have e1 := endsOf_take ns (i + 1) (by omega)
  rw [take_snoc hx, endsOf_snoc] at e1
  have e2 : (endsOf (ns.take i) ++ [(ns.take i).sum + ns[i]])[i]? = some ((ns.take i).sum + ns[i]) := by
    rw [List.getElem?_append_right (by rw [endsOf_len, List.length_take]; omega), endsOf_len, List.length_take, Nat.min_eq_left (by omega), Nat.sub_self]; rfl
  rw [e1, List.getElem?_take, if_pos (by omega)] at e2
  rw [e2, take_snoc hx, List.sum_append, List.sum_cons, List.sum_nil, Int.add_zero]
theorem endsOf_last {ns : List Int} (h : ns ≠ []) : atI ((endsOf ns).map V.int) (-1) = some (.int ns.sum) := by
  have hl : 0 < ns.length := by cases ns with | nil => exact absurd rfl h | cons _ _ => simp
  have e : (endsOf ns)[ns.length - 1]? = some ns.sum := by
    rw [endsOf_get (by omega), Nat.sub_add_cancel hl, List.take_length]
  have : atI ((endsOf ns).map V.int) (-1) = ((endsOf ns).map V.int)[ns.length - 1]? := by
    unfold atI
    have hn : ((endsOf ns).map V.int).length = ns.length := by rw [List.length_map, endsOf_len]
    rw [hn]
    have hi : ixN ns.length (-1) = some (ns.length - 1) := by
      unfold ixN
      rw [if_neg (by decide), if_pos (by omega)]
      congr 1
      omega
    rw [hi]; rfl
  rw [this, List.getElem?_map, e]; rfl
end
end L3
end
section
local macro_rules | `(tactic| tm_at "s1") => `(tactic| first
  | with_reducible first
    | refine L3.s_seq ?_ | refine L3.s_asg ?_ | refine L3.s_op ?_ | refine L3.s_c ?_ | refine L3.s_cb ?_ | refine L3.s_cons ?_ | refine L3.s_nil ?_ | refine L3.s_test ?_ | refine L3.s_bl ?_
    | refine L3.s_I0 ?_ | refine L3.s_and ?_ | refine L3.s_or ?_ | refine L3.s_not ?_ | refine L3.s_if ?_ | refine L3.s_next ?_ | refine L3.s_ret ?_ | refine L3.s_retN ?_ | refine L3.s_asgS ?_ | refine L3.s_drop ?_
    | refine L3.s_un ?_ | refine L3.s_U ?_ | refine L3.s_int ?_ | refine L3.s_intB ?_ | refine L3.s_abs ?_ | refine L3.s_andV ?_ | refine L3.s_orV ?_ | refine L3.s_notV ?_ | refine L3.s_ifE ?_ | refine L3.s_call ?_ | refine L3.s_lst ?_ | refine L3.s_tup ?_ | refine L3.s_tB ?_
    | refine L3.s_addI ?_ | refine L3.s_inS ?_ | refine L3.s_ninS ?_ | refine L3.s_slice ?_ | refine L3.s_part ?_ | refine L3.s_partI ?_ | refine L3.s_nopart ?_ | refine L3.s_cI ?_ | refine L3.s_cB ?_ | refine L3.s_chain ?_ | refine L3.s_bm ?_ | refine L3.s_lcS ?_ | refine L3.s_lcR ?_ | refine L3.s_strE ?_
    | refine L2.iteT ?_ | refine L2.iteF ?_ | refine L3.iteNF ?_ | refine L3.iteNT ?_
    | refine L3.s_eqI ?_ | refine L3.s_neI ?_ | refine L3.s_eqS ?_ | refine L3.s_neS ?_
    | refine L3.s_pair ?_ | refine L3.s_pair2 ?_ | refine L3.s_fld ?_ | refine L3.s_make ?_ | refine L3.s_m1 ?_ | refine L3.s_isstr ?_
    | refine L3.s_xfV ?_ | refine L3.s_lstN ?_ | refine L3.s_callF ?_ | refine L3.s_lcL ?_ | refine L3.s_par3 ?_ | refine L3.s_trip ?_ | refine L3.s_asgT' ?_ | refine L3.s_gC ?_ | refine L3.s_gN ?_ | refine L3.s_fldG ?_ | refine L3.s_raise1 ?_ | refine L3.s_raise2 ?_ | refine L3.s_star ?_ | refine L3.s_mkCR ?_ | refine L3.s_lcZ ?_ | refine L3.s_forL ?_ | refine L3.s_forT ?_ | refine L3.s_gNm ?_ | refine L3.s_forE ?_ | refine L3.s_stC ?_ | refine L3.s_cmC ?_ | refine L3.s_forR1 ?_ | refine L3.s_lcTp ?_ | refine L3.s_forZ ?_ | refine L3.s_orT ?_
    | refine L3.s_isN ?_ | refine L3.s_isB ?_ | refine L3.s_nisN ?_ | refine L3.s_nisB ?_
  | ((with_reducible refine' L3.s_var ?e ?_); (case e => rfl))
  | ((with_reducible refine' L3.s_aug ?e ?_); (case e => rfl))
  | ((with_reducible refine' L3.s_pow ?c ?_); (case c => exact ⟨by decide, by decide, by decide⟩)))
local macro_rules | `(tactic| tm_at "s") => `(tactic| repeat tm_at "s1")
namespace K09
open PySem PySem.Spec PyProof.Rows L2 L3 LamX RZ
def topS (i : Nat) : Stmt := PySem.Challenge.pw_latechunks_k09_chunks_made_and_refused.main.body.getD i (.Pass ⟨0, 0, 0, 0⟩)
structure Txt (K : PySem.W.Frag) (mg : Str → Option Value) (C CB CC CM CL CT CN CW : Addr) : Prop where
  b_isinstance : mg "isinstance" = none
  b_int : mg "int" = none
  b_bool : mg "bool" = none
  b_len : mg "len" = none
  b_abs : mg "abs" = none
  b_list : mg "list" = none
  b_tuple : mg "tuple" = none
  b_range : mg "range" = none
  b_repr : mg "repr" = none
  b_str : mg "str" = none
  b_zip : mg "zip" = none
  b_min : mg "min" = none
  b_max : mg "max" = none
  b_all : mg "all" = none
  b_sorted : mg "sorted" = none
  b_enumerate : mg "enumerate" = none
  b_ValueError : mg "ValueError" = none
  g_LateError : mg "LateError" = some (.ref CL)
  c : ClT K mg "Chunks" C
  s : ErT K mg "BadSize" CB CL ["value"]
  r : ErT K mg "BadChunks" CC CL ["part"]
  m : ErT K mg "TooMany" CM CL ["what", "most"]
  n : ErT K mg "NoChunk" CN CL ["at"]
  t : ErT K mg "BadTotal" CT CL ["value"]
  w : ErT K mg "BadText" CW CL ["line", "word"]
  kMW : PySem.W.kitOne K (.ref CM) (.ref CW) = some false
  kWM : PySem.W.kitOne K (.ref CW) (.ref CM) = some false
  kCI : PySem.W.kitOne K (.ref C) (.type "int") = some false
  kCS : PySem.W.kitOne K (.ref C) (.type "str") = some false
  kCLT : PySem.W.kitAny K (.ref C) [.type "list", .type "tuple"] = some false
  kTC : (["int", "NoneType", "bool", "str", "tuple", "list", "dict"].all fun T => decide (PySem.W.kitOne K (.type T) (.ref C) = some false)) = true
  cmp : CmpF K C
  nS : NoAttr K C "sizes"
  nE : NoAttr K C "ends"
  nT : NoAttr K C "total"
  nR : NoAttr K C "rests"
  g_MOST_SIZE : ∃ u, mg "MOST_SIZE" = some u ∧ RelV (.int (10 ^ 30)) u
  g_MOST_CHUNKS : ∃ u, mg "MOST_CHUNKS" = some u ∧ RelV (.int 5000) u
  g_MOST_ITEMS : ∃ u, mg "MOST_ITEMS" = some u ∧ RelV (.int (10 ^ 30)) u
  g_MOST_FIGURES : ∃ u, mg "MOST_FIGURES" = some u ∧ RelV (.int 4000) u
  digits : PySem.W.nsIn K cStatics "sys.int_max_str_digits" = some none
section
variable {K : PySem.W.Frag} {mg : Str → Option Value} {C CB CC CM CL CT CN CW : Addr}
theorem Txt.g_Chunks (T : Txt K mg C CB CC CM CL CT CN CW) : ∃ u, mg "Chunks" = some u ∧ RelV (.ref C) u := T.c.g
theorem Txt.g_BadSize (T : Txt K mg C CB CC CM CL CT CN CW) : ∃ u, mg "BadSize" = some u ∧ RelV (.ref CB) u := T.s.g
theorem Txt.g_BadChunks (T : Txt K mg C CB CC CM CL CT CN CW) : ∃ u, mg "BadChunks" = some u ∧ RelV (.ref CC) u := T.r.g
theorem Txt.g_TooMany (T : Txt K mg C CB CC CM CL CT CN CW) : ∃ u, mg "TooMany" = some u ∧ RelV (.ref CM) u := T.m.g
theorem Txt.g_NoChunk (T : Txt K mg C CB CC CM CL CT CN CW) : ∃ u, mg "NoChunk" = some u ∧ RelV (.ref CN) u := T.n.g
theorem Txt.g_BadTotal (T : Txt K mg C CB CC CM CL CT CN CW) : ∃ u, mg "BadTotal" = some u ∧ RelV (.ref CT) u := T.t.g
end
abbrev s_is_integer : Stmt := topS 3
theorem sc_is_integer : FnScope ["value"] ["value"] (defScope s_is_integer) := ⟨rfl, rfl, rfl, by decide +kernel, rfl, by decide +kernel, by decide +kernel⟩
abbrev s_is_within : Stmt := topS 4
theorem sc_is_within : FnScope ["value", "least", "most"] ["value", "least", "most"] (defScope s_is_within) := ⟨rfl, rfl, rfl, by decide +kernel, rfl, by decide +kernel, by decide +kernel⟩
abbrev s_is_size : Stmt := topS 5
theorem sc_is_size : FnScope ["value"] ["value"] (defScope s_is_size) := ⟨rfl, rfl, rfl, by decide +kernel, rfl, by decide +kernel, by decide +kernel⟩
abbrev s_need_size : Stmt := topS 21
theorem sc_need_size : FnScope ["value"] ["value"] (defScope s_need_size) := ⟨rfl, rfl, rfl, by decide +kernel, rfl, by decide +kernel, by decide +kernel⟩
abbrev s_need_few : Stmt := topS 22
theorem sc_need_few : FnScope ["many"] ["many"] (defScope s_need_few) := ⟨rfl, rfl, rfl, by decide +kernel, rfl, by decide +kernel, by decide +kernel⟩
abbrev s_ends_of : Stmt := topS 24
theorem sc_ends_of : FnScope ["sizes", "found", "total", "size"] ["sizes"] (defScope s_ends_of) := ⟨rfl, rfl, rfl, by decide +kernel, rfl, by decide +kernel, by decide +kernel⟩
abbrev s_Chunks___init__ : Stmt := inClass (topS 26) 1
abbrev names_Chunks___init__ : List Str := ["self", "sizes", "size", "end"]
theorem sc_Chunks___init__ : FnScope ["self", "sizes", "size", "end"] ["self", "sizes"] (defScope s_Chunks___init__) := ⟨rfl, rfl, rfl, by decide +kernel, rfl, by decide +kernel, by decide +kernel⟩
abbrev s_Chunks_of : Stmt := inClass (topS 26) 2
theorem sc_Chunks_of : FnScope ["sizes"] ["sizes"] (defScope s_Chunks_of) := ⟨rfl, rfl, rfl, by decide +kernel, rfl, by decide +kernel, by decide +kernel⟩
section
variable {P : Program} {w : World} {K : PySem.W.Frag} {mg : Str → Option Value} {base : Heap} {C CB CC CM CL CT CN CW : Addr}
theorem ok_is_integer {f : Addr} {fd : FuncData} (F : Fun K "is_integer" "is_integer" s_is_integer f fd) (T : Txt K mg C CB CC CM CL CT CN CW) : FnOk P w K mg base CX0 1 f fd ["value"] (spIsI2 K) := by
  refine funO F sc_is_integer (fun vs H Q E h => ?_) (fun cd A fr s H vs Q E hr h => ?_)
  · obtain ⟨x, rfl, _⟩ := h; rfl
  · obtain ⟨x, rfl, ⟨i, rfl, k⟩ | ⟨⟨b, rfl⟩ | ⟨ty, h1, h2⟩, k⟩⟩ := h
    · refine ⟨_, (pss_one (ps_ret (pe_and (pe_callB (KX.callIsi (K := K)) (by rfl) T.b_isinstance (by decide +kernel) (pa_cons (pv 0) (pa_cons (pe_bltn (v := .ty "int") (u := .type "int") (by rfl) T.b_int (by decide +kernel) rfl) pa_nil))) (pe_one (pe_not (pe_callB (KX.callIsi (K := K)) (by rfl) T.b_isinstance (by decide +kernel) (pa_cons (pv 0) (pa_cons (pe_bltn (v := .ty "bool") (u := .type "bool") (by rfl) T.b_bool (by decide +kernel) rfl) pa_nil)))))))), ?_⟩
      tm_at "s"
      refine s_isiT (.x (.base (.int i))) (b := true) (kit_ty (by decide +kernel)) ?_
      tm_at "s"
      refine s_isiT (.x (.base (.int i))) (b := false) (kit_ty (by decide +kernel)) ?_
      tm_at "s"
      exact k
    · refine ⟨_, (pss_one (ps_ret (pe_and (pe_callB (KX.callIsi (K := K)) (by rfl) T.b_isinstance (by decide +kernel) (pa_cons (pv 0) (pa_cons (pe_bltn (v := .ty "int") (u := .type "int") (by rfl) T.b_int (by decide +kernel) rfl) pa_nil))) (pe_one (pe_not (pe_callB (KX.callIsi (K := K)) (by rfl) T.b_isinstance (by decide +kernel) (pa_cons (pv 0) (pa_cons (pe_bltn (v := .ty "bool") (u := .type "bool") (by rfl) T.b_bool (by decide +kernel) rfl) pa_nil)))))))), ?_⟩
      tm_at "s"
      refine s_isiT (.x (.base (.bl b))) (b := true) (kit_ty (by decide +kernel)) ?_
      tm_at "s"
      refine s_isiT (.x (.base (.bl b))) (b := true) (kit_ty (by decide +kernel)) ?_
      tm_at "s"
      exact k
    · refine ⟨_, (pss_one (ps_ret (pe_and (pe_callB (KX.callIsi (K := K)) (by rfl) T.b_isinstance (by decide +kernel) (pa_cons (pv 0) (pa_cons (pe_bltn (v := .ty "int") (u := .type "int") (by rfl) T.b_int (by decide +kernel) rfl) pa_nil))) (pe_one (pe_not (pe_callB (KX.callIsi (K := K)) (by rfl) T.b_isinstance (by decide +kernel) (pa_cons (pv 0) (pa_cons (pe_bltn (v := .ty "bool") (u := .type "bool") (by rfl) T.b_bool (by decide +kernel) rfl) pa_nil)))))))), ?_⟩
      tm_at "s"
      refine s_isiT h1 h2 ?_
      tm_at "s"
      exact k
theorem ok_is_within {f : Addr} {fd : FuncData} (F : Fun K "is_within" "is_within" s_is_within f fd) (T : Txt K mg C CB CC CM CL CT CN CW) (c_is_integer : FnO P w K mg base CX0 1 "is_integer" ["value"] (spIsI2 K)) : FnOk P w K mg base CX0 2 f fd ["value", "least", "most"] (spWithin2 K) := by
  refine funO F sc_is_within (fun vs H Q E h => ?_) (fun cd A fr s H vs Q E hr h => ?_)
  · obtain ⟨x, a, b, rfl, _⟩ := h; rfl
  · obtain ⟨x, a, b, rfl, hc⟩ := h
    refine ⟨_, (pss_one (ps_ret (pe_and (pe_o c_is_integer hr pass0 (pa_cons (pv 0) pa_nil)) (pe_one (pe_chain op_le op_le (pv 1) (pv 0) (pv 2)))))), ?_⟩
    tm_at "s"
    rcases hc with ⟨i, rfl, h1, h2, k⟩ | ⟨ni | ⟨i, rfl, hn⟩, k⟩
    · refine ⟨_, rfl, .inl ⟨i, rfl, ?_⟩⟩
      tm_at "s"
      refine iteD (fun _ => ?_) (fun z => absurd h1 z)
      tm_at "s"
      rw [decide_eq_true h2]
      exact k
    · refine ⟨_, rfl, .inr ⟨ni, ?_⟩⟩
      tm_at "s"
      exact k
    · refine ⟨_, rfl, .inl ⟨i, rfl, ?_⟩⟩
      tm_at "s"
      refine iteD (fun z => ?_) (fun z => ?_)
      · tm_at "s"
        rw [decide_eq_false (fun y => hn ⟨z, y⟩)]
        exact k
      · tm_at "s"
        exact k
theorem ok_is_size {f : Addr} {fd : FuncData} (F : Fun K "is_size" "is_size" s_is_size f fd) (T : Txt K mg C CB CC CM CL CT CN CW) (c_is_within : FnO P w K mg base CX0 2 "is_within" ["value", "least", "most"] (spWithin2 K)) : FnOk P w K mg base CX0 3 f fd ["value"] (spSize2 K) := by
  refine funO F sc_is_size (fun vs H Q E h => ?_) (fun cd A fr s H vs Q E hr h => ?_)
  · obtain ⟨x, rfl, _⟩ := h; rfl
  · obtain ⟨x, rfl, hc⟩ := h
    refine ⟨_, (pss_one (ps_ret (pe_o c_is_within hr pass0 (pa_cons (pv 0) (pa_cons pe_int (pa_cons (C8.pe_gc (by rfl) T.g_MOST_SIZE) pa_nil)))))), ?_⟩
    tm_at "s"
    exact ⟨x, 1, 10 ^ 30, rfl, hc⟩
theorem ok_need_size {f : Addr} {fd : FuncData} (F : Fun K "need_size" "need_size" s_need_size f fd) (T : Txt K mg C CB CC CM CL CT CN CW) (c_is_size : FnO P w K mg base CX0 3 "is_size" ["value"] (spSize2 K)) (e_BadSize : Er1 P w K mg base "BadSize" CB "value") : FnOk P w K mg base (L2.CX P w) 4 f fd ["value"] (spNeedSize K CB) := by
  refine funO F sc_need_size (fun vs H Q E h => ?_) (fun cd A fr s H vs Q E hr h => ?_)
  · obtain ⟨x, rfl, _⟩ := h; rfl
  · obtain ⟨x, rfl, hc⟩ := h
    refine ⟨_, (pss_one (ps_if (pt_not (pt_val (pe_o c_is_size hr pass0 (pa_cons (pv 0) pa_nil)))) (pss_one (ps_raise1 e_BadSize hr rfl (takes_of rfl rfl rfl rfl) (pa_cons (pv 0) pa_nil))) pss_nil)), ?_⟩
    tm_at "s"
    rcases hc with ⟨i, rfl, hi, k⟩ | ⟨ho, rz⟩
    · refine ⟨_, rfl, .inl ⟨i, rfl, hi.1, hi.2, ?_⟩⟩
      tm_at "s"
      exact k
    · refine ⟨_, rfl, .inr ⟨ho, ?_⟩⟩
      tm_at "s"
      exact s_rz rz
theorem ok_need_few {f : Addr} {fd : FuncData} (F : Fun K "need_few" "need_few" s_need_few f fd) (T : Txt K mg C CB CC CM CL CT CN CW) (e_TooMany : Er2 P w K mg base "TooMany" CM "what" "most") : FnOk P w K mg base (L2.CX P w) 3 f fd ["many"] (spNeedFew CM) := by
  refine funO F sc_need_few (fun vs H Q E h => ?_) (fun cd A fr s H vs Q E hr h => ?_)
  · obtain ⟨x, rfl, _⟩ := h; rfl
  · obtain ⟨n, rfl, hc⟩ := h
    refine ⟨_, (pss_one (ps_if (pt_cmpR op_gt (pv 0) (C8.pe_gc (by rfl) T.g_MOST_CHUNKS) (nomark _)) (pss_one (ps_raise2 e_TooMany hr rfl (takes_of rfl rfl rfl rfl) (pa_cons pe_str (pa_cons (C8.pe_gc (by rfl) T.g_MOST_CHUNKS) pa_nil)))) pss_nil)), ?_⟩
    tm_at "s"
    rcases hc with ⟨hn, k⟩ | ⟨hn, rz⟩
    · refine iteD (fun z => absurd z (by omega)) (fun _ => ?_)
      tm_at "s"
      exact k
    · refine iteD (fun _ => ?_) (fun z => absurd hn (by omega))
      tm_at "s"
      exact s_rz2 rz
theorem ok_ends_of {f : Addr} {fd : FuncData} (F : Fun K "ends_of" "ends_of" s_ends_of f fd) (T : Txt K mg C CB CC CM CL CT CN CW) : FnOk P w K mg base CX0 1 f fd ["sizes"] spEnds := by
  refine funO F sc_ends_of (fun vs H Q E h => ?_) (fun cd A fr s H vs Q E hr h => ?_)
  · obtain ⟨t, ns, rfl, _⟩ := h; rfl
  · obtain ⟨t, ns, rfl, ht, hz, k⟩ := h
    refine ⟨_, (pss_cons (ps_set (i := 1) sc_ends_of.nd rfl (Or.inl rfl) (pe_lst pa_nil))
      (pss_cons (ps_set (i := 2) sc_ends_of.nd rfl (Or.inl rfl) pe_int)
      (pss_cons (ps_for (passes_of rfl) rfl (pi_tup (pv 0)) (pg_name (i := 3) sc_ends_of.nd rfl (Or.inl rfl)) (pss_cons (ps_set (i := 2) sc_ends_of.nd rfl (Or.inl rfl) (pe_op opAdd (pv 2) (pv 3)))
      (pss_one (ps_expr (pe_bm PySem.F.plainAttrs_list PySem.F.slot_list_append PySem.F.type_list_append mt_append (pv 1) (pa_cons (pv 2) pa_nil))))))
      (pss_one (ps_ret (pe_callTy call_tuple_of (by rfl) T.b_tuple (by decide +kernel) (pa_cons (pv 1) pa_nil))))))), ?_⟩
    tm_at "s"
    refine s_new (Nat.le_of_lt (small1000 (by simp))) fun l H1 hl e1 h1 => ?_
    try dsimp only
    tm_at "s"
    have htl : t ≠ l := ne_of_none ht hl
    refine s_fT (xs := ns.map V.int) (e1 _ _ ht) (fun i σ H' => ∃ v, σ = [some (.ref t), some (.ref l), some (.int (ns.take i).sum), v] ∧ H' l = some (.lst ((endsOf (ns.take i)).map V.int)) ∧ ∀ b o, b ≠ l → H1 b = some o → H' b = some o) ⟨_, rfl, h1, fun _ _ _ h => h⟩ (fun i σ H' ⟨_, _, _, k2⟩ => k2 _ _ htl (e1 _ _ ht)) ?_ ?_
    · rintro i x _ H' hx ⟨v, rfl, h2, k2⟩
      obtain ⟨n, hn, rfl⟩ := get_int hx
      refine s_gNm ?_
      try dsimp only
      tm_at "s"
      refine s_tyL h2 ?_
      tm_at "s"
      have hi : i < ns.length := (List.getElem?_eq_some_iff.mp hn).1
      refine s_app h2 (Nat.lt_of_le_of_lt (by rw [List.length_map, endsOf_len, List.length_take]; omega) (sz100k hz)) ?_
      have es : (ns.take (i + 1)).sum = (ns.take i).sum + n := by rw [take_snoc hn, List.sum_append, List.sum_cons, List.sum_nil, Int.add_zero]
      refine ⟨_, by rw [es]; rfl, ?_, fun c o hc h => by rw [upd_ne hc]; exact k2 c o hc h⟩
      rw [upd_same, take_snoc hn, endsOf_snoc, List.map_append]; rfl
    · rintro _ H' ⟨v, rfl, h2, k2⟩
      rw [List.length_map, List.take_length] at h2
      try dsimp only
      tm_at "s"
      have e3 : Ex H H' := fun c o hc => k2 c o (ne_of_none hc hl) (e1 _ _ hc)
      exact ⟨l, _, rfl, .inl ⟨.inl (.inl h2), fun q hq => k q _ (e3.free hq) (e3.trans (ex_new hq)) upd_same⟩⟩
theorem ok_Chunks {f : Addr} {fd : FuncData} (F : Fun K "__init__" "Chunks.__init__" s_Chunks___init__ f fd) (T : Txt K mg C CB CC CM CL CT CN CW) (c_need_size : FnO P w K mg base (L2.CX P w) 4 "need_size" ["value"] (spNeedSize K CB)) (c_need_few : FnO P w K mg base (L2.CX P w) 3 "need_few" ["many"] (spNeedFew CM)) (c_ends_of : FnO P w K mg base CX0 1 "ends_of" ["sizes"] spEnds) :
    FnR P w K mg base (L2.CX P w) 5 f (spCk K C CB CM) := by
  refine funStar F sc_Chunks___init__ (fun _ _ _ _ _ _ _ => rfl) (fun _ _ _ _ _ _ _ _ _ => rfl) (fun cd A fr s H vs Q E hr h => ?_)
  obtain ⟨p, dx, t, xs, rfl, hp, htp, ht, hz, hc⟩ := h
  obtain ⟨ns, rest, rfl, hsz, hr'⟩ : ∃ (ns : List Int) (rest : List V), xs = ns.map V.int ++ rest ∧ (∀ n ∈ ns, siz n) ∧ ((rest = [] ∧ ((ns.length ≤ 5000 ∧ (∀ H', (∀ c o, c ≠ p → H c = some o → H' c = some o) → Ck C H' p ns → Q .non H')) ∨ (5000 < ns.length ∧ Rz2 CM "what" "most" (.str "chunks") (.int 5000) H E))) ∨ ∃ z r, rest = z :: r ∧ OutS K H z 1 (10 ^ 30) ∧ Rz CB "value" z H E) := by
    rcases hc with ⟨ns, rfl, h1, h2⟩ | ⟨ns, z, r, rfl, h1, h2, h3⟩
    · exact ⟨ns, [], by rw [List.append_nil], h1, .inl ⟨rfl, h2⟩⟩
    · exact ⟨ns, z :: r, rfl, h1, .inr ⟨z, r, rfl, h2, h3⟩⟩
  refine ⟨_, (pss_cons (ps_for (passes_of rfl) rfl (pi_tup (pv 1)) (pg_name (i := 2) sc_Chunks___init__.nd rfl (Or.inl rfl)) (pss_one (ps_expr (pe_o c_need_size hr (passT (takes_of rfl rfl rfl rfl) (fun _ _ _ _ h => h)) (pa_cons (pv 2) pa_nil)))))
      (pss_cons (ps_expr (pe_o c_need_few hr (passT (takes_of rfl rfl rfl rfl) (fun _ _ _ _ h => h)) (pa_cons (pe_callB (KX.callLen (K := K)) (by rfl) T.b_len (by decide +kernel) (pa_cons (pv 1) pa_nil)) pa_nil)))
      (pss_cons (ps_fld (pv 0) (pv 1) rfl)
      (pss_cons (ps_fld (pv 0) (pe_o c_ends_of hr pass0 (pa_cons (pv 1) pa_nil)) rfl)
      (pss_cons (ps_fld (pv 0) (pe_ifExp (pt_cmpR op_gt (pe_callB (KX.callLen (K := K)) (by rfl) T.b_len (by decide +kernel) (pa_cons (pv 1) pa_nil)) pe_int (nomark _)) (pe_ix (KX.ixU (K := K)) (KX.fld (K := K) rfl (pv 0) rfl) (pe_un un_neg pe_int) (fun _ _ => rfl)) pe_int) rfl)
      (pss_one (ps_fld (pv 0) (pe_callTy call_tuple_of (by rfl) T.b_tuple (by decide +kernel) (pa_cons (pe_lc (own := [("size", 2), ("end", 3)]) (g := gTup K 2 (gCons (gName 2) (gCons (gName 3) gNil))) (tt := tYes) (by rfl) sc_Chunks___init__.nd (RZ.pi_zipA (by rfl) T.b_zip (pa_cons (KX.fld (K := K) rfl (pv 0) rfl) (pa_cons (KX.fld (K := K) rfl (pv 0) rfl) pa_nil))) (blkOk_by (own := [("size", 2), ("end", 3)]) (N := names_Chunks___init__) (sc := defScope s_Chunks___init__) (by decide +kernel)) (fun _ _ _ _ _ => pg_tup rfl (pgs_cons (pg_name (i := 2) sc_Chunks___init__.nd rfl (Or.inl rfl)) (pgs_cons (pg_name (i := 3) sc_Chunks___init__.nd rfl (Or.inl rfl)) pgs_nil))) (fun _ _ _ _ _ => pts_nil) (fun _ _ _ _ _ => (pe_op opAdd (pe_op op_sub (KX.fld (K := K) rfl (pv 0) rfl) (pv 3)) (pv 2)))) pa_nil)) rfl))))))), ?_⟩
  tm_at "s"
  refine s_fT ht (fun i σ H' => H' = H ∧ i ≤ ns.length ∧ ∃ v v', σ = [some (.ref p), some (.ref t), v, v']) ⟨rfl, Nat.zero_le _, _, _, rfl⟩ (fun i σ H' ⟨h, _⟩ => by rw [h]; exact ht) ?_ ?_
  · rintro i x _ H' hx ⟨rfl, hi, v, v', rfl⟩
    refine s_gNm ?_
    try dsimp only
    tm_at "s"
    rcases Nat.lt_or_ge i ns.length with hl | hl
    · rw [List.getElem?_append_left (by rw [List.length_map]; exact hl)] at hx
      obtain ⟨n, hn, rfl⟩ := get_int hx
      exact ⟨_, rfl, .inl ⟨n, rfl, hsz n (List.mem_of_getElem? hn), rfl, hl, _, _, rfl⟩⟩
    · have e : i = ns.length := by omega
      subst e
      rw [List.getElem?_append_right (by rw [List.length_map]; exact Nat.le_refl _), List.length_map, Nat.sub_self] at hx
      rcases hr' with ⟨rfl, _⟩ | ⟨z, r, rfl, h2, h3⟩
      · cases hx
      · cases hx
        exact ⟨_, rfl, .inr ⟨h2, h3⟩⟩
  · rintro _ H' ⟨rfl, hi, v, v', rfl⟩
    rcases hr' with ⟨rfl, hfew⟩ | ⟨z, r, rfl, h2, h3⟩
    · rw [List.append_nil] at ht hz
      try dsimp only
      tm_at "s"
      refine s_lenT ht ?_
      tm_at "s"
      rw [List.length_map] at hz ⊢
      rcases hfew with ⟨hle, kq⟩ | ⟨hgt, rz⟩
      · refine ⟨_, rfl, .inl ⟨by omega, ?_⟩⟩
        tm_at "s"
        refine ⟨p, C, dx, [], rfl, hp, T.c.cl, T.nS, by decide, ?_⟩
        tm_at "s"
        refine ⟨t, ns, rfl, by rw [upd_ne htp]; exact ht, hz, fun q H2 nq e2 h2 => ?_⟩
        have hp2 := e2 _ _ (show (upd H' p _) p = some _ from upd_same)
        have hqp : q ≠ p := fun z => by rw [z, upd_same] at nq; cases nq
        have ht2 := e2 t _ (show (upd H' p _) t = some _ by rw [upd_ne htp]; exact ht)
        tm_at "s"
        refine ⟨p, C, dx, _, rfl, hp2, T.c.cl, T.nE, (by show 1 < 1000; decide), ?_⟩
        tm_at "s"
        refine s_lenT (show (upd H2 p _) t = some _ by rw [upd_ne htp]; exact ht2) ?_
        rw [List.length_map]
        tm_at "s"
        generalize hI2 : upd H2 p (HO.ins C dx _) = I2
        have pI2 : I2 p = some (.ins C dx (putF "ends" (.ref q) (putF "sizes" (.ref t) []))) := by rw [← hI2, upd_same]
        have kI2 : ∀ c o, c ≠ p → H' c = some o → I2 c = some o := fun c o hc h => by rw [← hI2, upd_ne hc]; exact e2 c o (by rw [upd_ne hc]; exact h)
        have qI2 : I2 q = some (.tup ((endsOf ns).map V.int)) := by rw [← hI2, upd_ne hqp]; exact h2
        have key : ∀ R : VK, R (.int ns.sum) I2 → if decide ((0 : Int) < (ns.length : Int)) = true then tOp (rIxU K) (tFld K (tVar 0) "ends") (tUn (rU fun i => V.int (-i)) (tC (V.int 1))) [some (V.ref p), some (V.ref t), v, v'] I2 R else tC (.int 0) [some (V.ref p), some (V.ref t), v, v'] I2 R := by
          intro R hR
          refine iteD (fun z => ?_) (fun z => ?_)
          · have hne : ns ≠ [] := fun e => by rw [e] at z; exact absurd z (by decide)
            tm_at "s"
            refine ⟨p, C, dx, _, _, rfl, pI2, T.c.cl, T.nE, rfl, ?_⟩
            tm_at "s"
            exact s_iT qI2 (endsOf_last hne) hR
          · have he : ns = [] := by cases ns with | nil => rfl | cons _ _ => exact absurd (show (0 : Int) < ((_ :: _ : List Int).length : Int) by rw [List.length_cons]; omega) z
            subst he
            exact hR
        refine key _ ?_
        tm_at "s"
        refine ⟨p, C, dx, _, rfl, pI2, T.c.cl, T.nT, (by show 2 < 1000; decide), ?_⟩
        generalize hI3 : upd I2 p (HO.ins C dx _) = I3
        have pI3 : I3 p = some (.ins C dx (putF "total" (.int ns.sum) (putF "ends" (.ref q) (putF "sizes" (.ref t) [])))) := by rw [← hI3, upd_same]
        have kI3 : ∀ c o, c ≠ p → I2 c = some o → I3 c = some o := fun c o hc h => by rw [← hI3, upd_ne hc]; exact h
        have qI3 := kI3 _ _ hqp qI2
        have tI3 := kI3 _ _ htp (kI2 _ _ htp ht)
        try dsimp only
        tm_at "s"
        refine ⟨p, C, dx, _, _, rfl, pI3, T.c.cl, T.nS, rfl, ?_⟩
        tm_at "s"
        refine ⟨p, C, dx, _, _, rfl, pI3, T.c.cl, T.nE, rfl, ?_⟩
        tm_at "s"
        refine ⟨t, q, _, _, rfl, .inr ⟨.inl (.inl tI3), .inl (.inl qI3), lcZT (fun i => .int (ns.sum - (endsOf ns).getD i 0 + ns.getD i 0)) (by rw [List.length_map, List.length_map, endsOf_len]) tI3 qI3 (by rw [List.length_map]; exact sz100k hz) (fun _ _ => rfl) (fun i x y H4 R hx hy e4 r => ?_) fun D H4 nD e4 h4 => ?_⟩⟩
        · obtain ⟨n, hn, rfl⟩ := get_int hx
          obtain ⟨m, hm, rfl⟩ := get_int hy
          tm_at "s"
          refine ⟨p, C, dx, _, _, rfl, e4 _ _ pI3, T.c.cl, T.nT, rfl, ?_⟩
          tm_at "s"
          have e1 : ns.getD i 0 = n := by rw [List.getD_eq_getElem?_getD, hn]; rfl
          have e2 : (endsOf ns).getD i 0 = m := by rw [List.getD_eq_getElem?_getD, hm]; rfl
          rw [e1, e2] at r
          exact r
        · tm_at "s"
          rw [List.length_map] at h4
          refine ⟨D, _, rfl, .inl ⟨.inl (.inl h4), fun u hu => ?_⟩⟩
          tm_at "s"
          have pI4 := e4 _ _ pI3
          have hup : u ≠ p := fun z => by rw [z, pI4] at hu; cases hu
          refine ⟨p, C, dx, _, rfl, by rw [upd_ne hup.symm]; exact pI4, T.c.cl, T.nR, (by show 3 < 1000; decide), ?_⟩
          have ku : ∀ c o, c ≠ p → I3 c = some o → (upd (upd H4 u (HO.tup ((List.range ns.length).map fun i => V.int (ns.sum - (endsOf ns).getD i 0 + ns.getD i 0)))) p (HO.ins C dx (ckF t q u ns.sum))) c = some o := fun c o hc h => by
            rw [upd_ne hc, upd_ne (ne_of_none (e4 _ _ h) hu)]; exact e4 _ _ h
          refine kq _ (fun c o hc h => ku c o hc (kI3 _ _ hc (kI2 _ _ hc h))) ⟨dx, t, q, u, upd_same, ku _ _ htp tI3, ku _ _ hqp qI3, ?_⟩
          rw [upd_ne hup, upd_same]
          unfold restsOf
          rw [List.map_map]; rfl
      · exact ⟨_, rfl, .inr ⟨by omega, rz⟩⟩
    · rw [List.length_append, List.length_map, List.length_cons] at hi
      omega
theorem ok_of {f : Addr} {fd : FuncData} (F : Fun K "of" "Chunks.of" s_Chunks_of f fd) (T : Txt K mg C CB CC CM CL CT CN CW) (m_Chunks : McR P w K mg base (L2.CX P w) 5 "Chunks" C (spCk K C CB CM)) (e_BadChunks : Er1 P w K mg base "BadChunks" CC "part") :
    FnOk P w K mg base (L2.CX P w) 7 f fd ["sizes"] (spOf K C CB CC CM) := by
  refine funO F sc_Chunks_of (fun vs H Q E h => ?_) (fun cd A fr s H vs Q E hr h => ?_)
  · obtain ⟨x, rfl, _⟩ := h; rfl
  · obtain ⟨x, rfl, hc⟩ := h
    refine ⟨_, (pss_cons (ps_if (pt_not (pt_val (pe_callB (KX.isiTT (K := K) rfl) (by rfl) T.b_isinstance (by decide +kernel) (pa_cons (pv 0) (pa_cons (pe_tup (pa_cons (pe_bltn (v := .ty "list") (u := .type "list") (by rfl) T.b_list (by decide +kernel) rfl) (pa_cons (pe_bltn (v := .ty "tuple") (u := .type "tuple") (by rfl) T.b_tuple (by decide +kernel) rfl) pa_nil))) pa_nil))))) (pss_one (ps_raise1 e_BadChunks hr rfl (takes_of rfl rfl rfl rfl) (pa_cons pe_str pa_nil))) pss_nil)
      (pss_one (ps_ret (pe_mkRS m_Chunks hr (passT (takes_of rfl rfl rfl rfl) (fun _ _ _ _ h => h)) (pv 0))))), ?_⟩
    tm_at "s"
    refine s_new (Nat.le_of_lt (small1000 (by simp))) fun q H1 hq e1 h1 => ?_
    tm_at "s"
    rcases hc with ⟨a, xs, rfl, ha | ha, hg⟩ | ⟨⟨ty, t1, t2⟩, rz⟩
    · refine s_isiLT (b := true) h1 (.base (.lst (e1 _ _ ha))) (kit_lt (b1 := true) (b2 := false) (by decide +kernel) (by decide +kernel)) ?_
      tm_at "s"
      refine ⟨a, xs, rfl, .inr (.inl (.inl (e1 _ _ ha))), ?_⟩
      tm_at "s"
      rw [List.append_nil]
      exact s_mkCk (hg.ex e1 fun ns g q H' nq e hc => g q H' (e1.trans e) hc)
    · refine s_isiLT (b := true) h1 (.base (.tup (e1 _ _ ha))) (kit_lt (b1 := false) (b2 := true) (by decide +kernel) (by decide +kernel)) ?_
      tm_at "s"
      refine ⟨a, xs, rfl, .inl (.inl (.inl (e1 _ _ ha))), ?_⟩
      tm_at "s"
      rw [List.append_nil]
      exact s_mkCk (hg.ex e1 fun ns g q H' nq e hc => g q H' (e1.trans e) hc)
    · refine s_isiLT h1 (L3.TyX.exN t1 e1.n) t2 ?_
      tm_at "s"
      exact s_rz (rz.ex' e1)
end
end K09
end
section
namespace L3
open PySem PySem.Spec PyProof.Rows L2 NumText
theorem digits_lt (l : List Nat) (h : AllDigits l) : digitsVal l < 10 ^ l.length := by
  have : ∀ n (l : List Nat), l.length = n → AllDigits l → digitsVal l < 10 ^ n := by
    intro n
    induction n with
    | zero => intro l hl _; rw [List.length_eq_zero_iff.mp hl]; decide
    | succ n ih =>
      intro l hl ha
      have hne : l ≠ [] := fun z => by rw [z] at hl; cases hl
      have hd : l = l.dropLast ++ [l.getLast hne] := (List.dropLast_concat_getLast hne).symm
      generalize l.getLast hne = c at hd
      generalize l.dropLast = es at hd
      subst hd
      have hc := ha c (by simp)
      have := ih es (by simp at hl; omega) fun d hd => ha d (by simp [hd])
      rw [val_snoc, Nat.pow_succ]
      omega
  exact this _ l rfl h
def Pg (n : Nat) (z : Str) : Prop := z.length ≤ n ∧ ∀ c ∈ z.cps.toList, c < 1114112
theorem Pg.mono {n m : Nat} {z : Str} (h : Pg n z) (hm : n ≤ m) : Pg m z := ⟨Nat.le_trans h.1 hm, h.2⟩
theorem Pg.app {n m : Nat} {a b : Str} (h1 : Pg n a) (h2 : Pg m b) : Pg (n + m) (a ++ b) := by
  refine ⟨by rw [len_app]; have := h1.1; have := h2.1; omega, fun c hc => ?_⟩
  have e : (a ++ b).cps.toList = a.cps.toList ++ b.cps.toList := TL.tl_append a b
  rw [e] at hc
  rcases List.mem_append.mp hc with hc | hc
  · exact h1.2 c hc
  · exact h2.2 c hc
end L3
end
section
namespace L3
open PySem PySem.Spec PyProof.Rows L2 LamX ClX
/-- no text: another value, or a fraction -/
inductive NoS (C : Addr) (H : Hp) : V → Prop
  | non : NoS C H .non
  | bl (b : Bool) : NoS C H (.bl b)
  | int (i : Int) : NoS C H (.int i)
  | tup {p : Addr} {xs : List V} : H p = some (.tup xs) → NoS C H (.ref p)
  | lst {p : Addr} {xs : List V} : H p = some (.lst xs) → NoS C H (.ref p)
  | dic {p : Addr} {kvs : List (Key × V)} : H p = some (.dK kvs) → NoS C H (.ref p)
  | rt {p : Addr} {o u : Int} : Rt C H p o u → NoS C H (.ref p)
theorem NoS.exN {C : Addr} {H H' : Hp} {v : V} (h : NoS C H v) (e : ExtN H H') : NoS C H' v := by
  cases h with
  | non => exact .non
  | bl b => exact .bl b
  | int b => exact .int b
  | tup h => exact .tup (e _ _ h fun _ z => nomatch z)
  | lst h => exact .lst (e _ _ h fun _ z => nomatch z)
  | dic h => exact .dic (e _ _ h fun _ z => nomatch z)
  | rt h => exact .rt (h.exN e)
end L3
namespace L3
open PySem PySem.Spec PyProof.Rows L2 LamX ClX
def bas : Int := (10 : Int) ^ (Int.toNat 30) - 1
def far (i : Nat) : Int := bas ^ (i + 1)
end L3
end
section
namespace L3
open PySem PySem.NumText PySem.Spec PyProof.Rows L2
def numS (z : Str) : Option Int := if figB z = true ∧ 1 ≤ valOf z ∧ valOf z ≤ 10 ^ 30 then some (valOf z) else none
def ten30 : Str := "1000000000000000000000000000000"
def isz (z : Str) : Bool := !decide (z = "") && (z.cps.toList.all isDig && (!decide (z.cps.toList.head? = some 48) && (decide (z.length < 31) || decide (z = ten30))))
theorem val_lt : ∀ ds : List Nat, AllDigits ds → digitsVal ds < 10 ^ ds.length := fun ds h => digits_lt ds h
theorem isz_num (z : Str) : (isz z = true → figB z = true ∧ figsOf z = z ∧ 1 ≤ valOf z ∧ valOf z ≤ 10 ^ 30) ∧ (numS z ≠ none → isz z = true) := by
  have key : ∀ (h0 : z.cps.toList ≠ []) (hd : z.cps.toList.all isDig = true) (hh : z.cps.toList.head? ≠ some 48) (hl : z.length ≤ 4000), figB z = true ∧ figsOf z = z ∧ valOf z = ((digitsVal z.cps.toList : Nat) : Int) ∧ 0 < digitsVal z.cps.toList ∧ TL.numL (digitsVal z.cps.toList) = z.cps.toList := by
    intro h0 hd hh hl
    have h45 : z.cps.toList.head? ≠ some 45 := fun e => by
      obtain ⟨r, hr⟩ := head45 e
      have := List.all_eq_true.mp hd 45 (by rw [hr]; simp)
      rw [isDig_iff] at this
      omega
    have hf := figs_pos h45
    obtain ⟨c1, c2⟩ := canon _ _ rfl (digits_all hd) h0 hh
    refine ⟨?_, hf, by unfold valOf; rw [if_neg h45], c2, c1⟩
    unfold figB
    rw [hf, hd]
    have hp : 0 < z.cps.toList.length := by cases h : z.cps.toList with | nil => exact absurd h h0 | cons _ _ => simp
    rw [len_codes] at hp
    have e1 : decide (1 ≤ (z.length : Int)) = true := decide_eq_true (by omega)
    have e2 : decide ((z.length : Int) ≤ 4000) = true := decide_eq_true (by omega)
    have e3 : decide (z.cps.toList.head? = some 48) = false := decide_eq_false hh
    rw [e1, e2, e3]
    simp
  have e30 : ten30.cps.toList = TL.numL (10 ^ 30) := by decide +kernel
  refine ⟨fun h => ?_, fun h => ?_⟩
  · unfold isz at h
    simp only [Bool.and_eq_true, Bool.not_eq_true', decide_eq_false_iff_not, Bool.or_eq_true, decide_eq_true_eq] at h
    obtain ⟨h0, hd, hh, hl⟩ := h
    have hne : z.cps.toList ≠ [] := fun e => h0 (str_ext e)
    have hl' : z.length ≤ 4000 := by
      rcases hl with hl | rfl
      · omega
      · decide +kernel
    obtain ⟨a, b, c, d, _⟩ := key hne hd hh hl'
    refine ⟨a, b, by omega, ?_⟩
    rw [c]
    rcases hl with hl | rfl
    · have := val_lt _ (digits_all hd)
      rw [len_codes] at this
      have h2 : digitsVal z.cps.toList < 10 ^ 30 := Nat.lt_of_lt_of_le this (Nat.pow_le_pow_right (by decide) (by omega))
      have : ((digitsVal z.cps.toList : Nat) : Int) < ((10 ^ 30 : Nat) : Int) := Int.ofNat_lt.mpr h2
      have e : ((10 ^ 30 : Nat) : Int) = 10 ^ 30 := by decide +kernel
      rw [e] at this
      exact Int.le_of_lt this
    · rw [e30, TL.numL_val]; decide +kernel
  · unfold numS at h
    split at h
    · rename_i hc
      obtain ⟨hf, h1, h2⟩ := hc
      unfold figB at hf
      simp only [Bool.and_eq_true, Bool.or_eq_true, decide_eq_true_eq, Bool.not_eq_true', decide_eq_false_iff_not] at hf
      obtain ⟨⟨⟨l1, l2⟩, hd⟩, hz⟩ := hf
      have h45 : z.cps.toList.head? ≠ some 45 := fun e => by
        unfold valOf at h1
        rw [if_pos e] at h1
        omega
      rw [figs_pos h45] at l1 l2 hd hz
      have hne : z.cps.toList ≠ [] := fun e => by
        have := len_codes z
        rw [e] at this
        simp at this
        omega
      have hh : z.cps.toList.head? ≠ some 48 := by
        rcases hz with hz | hz
        · exfalso
          rw [hz] at h1
          exact absurd h1 (by decide +kernel)
        · exact hz
      obtain ⟨a, b, c, d, e⟩ := key hne hd hh (by omega)
      unfold isz
      simp only [Bool.and_eq_true, Bool.not_eq_true', decide_eq_false_iff_not, Bool.or_eq_true, decide_eq_true_eq]
      refine ⟨fun q => hne (by rw [q]; rfl), hd, hh, ?_⟩
      rw [c] at h2
      have h2' : digitsVal z.cps.toList ≤ 10 ^ 30 := by
        have e : ((10 ^ 30 : Nat) : Int) = 10 ^ 30 := by decide +kernel
        rw [← e] at h2
        exact Int.ofNat_le.mp h2
      rcases Nat.lt_or_eq_of_le h2' with hlt | heq
      · left
        have := TL.numL_len (n := digitsVal z.cps.toList) (k := 30) (by decide) hlt
        rw [e, len_codes] at this
        omega
      · right
        rw [heq] at e
        exact str_ext (by rw [e30, e])
    · exact absurd rfl h
theorem numS_isz (z : Str) : numS z = if isz z = true then some (valOf z) else none := by
  obtain ⟨a, b⟩ := isz_num z
  by_cases h : isz z = true
  · rw [if_pos h]
    obtain ⟨h1, _, h2, h3⟩ := a h
    unfold numS
    rw [if_pos ⟨h1, h2, h3⟩]
  · rw [if_neg h]
    cases e : numS z with
    | none => rfl
    | some n => exact absurd (b (by rw [e]; exact fun z => nomatch z)) h
theorem siz_nat {n : Int} (h : siz n) : n.natAbs ≤ 10 ^ 30 := by
  obtain ⟨h1, h2⟩ := h
  obtain ⟨m, rfl⟩ : ∃ m : Nat, n = (m : Int) := ⟨n.toNat, by omega⟩
  have e : ((10 ^ 30 : Nat) : Int) = 10 ^ 30 := by decide +kernel
  rw [← e] at h2
  exact Int.ofNat_le.mp h2
theorem siz_log {n : Int} (h : siz n) : n.natAbs.log2 < 1920 := by
  have h1 := siz_nat h
  have h0 : n.natAbs ≠ 0 := by have := h.1; omega
  exact (Nat.log2_lt h0).mpr (Nat.lt_of_le_of_lt h1 (by decide +kernel))
/-- what str writes of a size is read as just this size -/
theorem numS_str {n : Int} (h : siz n) : numS (strOf n) = some n ∧ 32 ∉ (strOf n).cps.toList ∧ (strOf n).length ≤ 31 ∧ strOf n ≠ "-" := by
  obtain ⟨h1, h2⟩ := h
  obtain ⟨m, rfl⟩ : ∃ m : Nat, n = (m : Int) := ⟨n.toNat, by omega⟩
  have hm : m ≤ 10 ^ 30 := by
    have e : ((10 ^ 30 : Nat) : Int) = 10 ^ 30 := by decide +kernel
    rw [← e] at h2
    exact Int.ofNat_le.mp h2
  have hd := TL.numL_digits m
  have hc : (strOf (m : Int)).cps.toList = TL.numL m := strOf_nat m
  have hl := TL.numL_len (n := m) (k := 31) (by decide) (Nat.lt_of_le_of_lt hm (by decide +kernel))
  have hh : (TL.numL m).head? ≠ some 48 := by
    rcases numL_head m with ⟨_, h⟩ | ⟨h, _⟩
    · omega
    · exact h
  have hne : TL.numL m ≠ [] := fun e => by
    have := TL.numL_val m
    rw [e] at this
    have : (0 : Nat) = m := this
    omega
  have hdig : (strOf (m : Int)).cps.toList.all isDig = true := by
    rw [hc]
    exact List.all_eq_true.mpr fun c hc => (isDig_iff c).mpr (hd c hc)
  have hlen : (strOf (m : Int)).length = (TL.numL m).length := by rw [← len_codes, hc]
  have h45 : (strOf (m : Int)).cps.toList.head? ≠ some 45 := by
    rw [hc]
    intro e
    obtain ⟨r, hr⟩ := head45 e
    have := hd 45 (by rw [hr]; simp)
    omega
  refine ⟨?_, fun hs => ?_, by rw [hlen]; exact hl, fun e => ?_⟩
  · have hv : valOf (strOf (m : Int)) = (m : Int) := by
      unfold valOf
      rw [if_neg h45, hc, TL.numL_val]
    rw [numS_isz, hv, if_pos]
    unfold isz
    simp only [Bool.and_eq_true, Bool.not_eq_true', decide_eq_false_iff_not, Bool.or_eq_true, decide_eq_true_eq]
    refine ⟨fun q => hne (by rw [← hc, q]; rfl), hdig, by rw [hc]; exact hh, ?_⟩
    rcases Nat.lt_or_eq_of_le hm with hlt | rfl
    · left
      rw [hlen]
      have := TL.numL_len (n := m) (k := 30) (by decide) hlt
      omega
    · right
      exact str_ext (by rw [hc]; decide +kernel)
  · rw [hc] at hs
    have := hd 32 hs
    omega
  · rw [e] at h45
    exact h45 (by decide +kernel)
end L3
end
section
namespace L3
open PySem PySem.NumText PySem.Spec PyProof.Rows L2 LamX RZ
section
variable {K : PySem.W.Frag} {σ : L2.St} {H : Hp} {Q : VK} {g : TG} {tb : TS} {D : Ends} {ta to te : TE} {t : TA}
/-- a walk over anything -/
def ForJ (J : It) (g : TG) (tb : TS) (D : Ends) (σ : L2.St) (H : Hp) : Prop := ∃ W : Nat → Nat → L2.St → Hp → Prop, (∃ m, W 0 m σ H) ∧ ∀ (i m : Nat) (σ : L2.St) (H : Hp), W i m σ H → J.stop i H ∧ D.nx σ H ∨ J.go i H ∧
  ∃ N, (∀ (σ' : L2.St) (H' : Hp), N σ' H' → ∃ m', m' < m ∧ W (i + 1) m' σ' H') ∧ ∀ (x : V) (H' : Hp), J.yld i H x H' → g x σ H' fun σ2 H2 => tb { nx := N, rt := D.rt, bk := D.nx, ct := N } σ2 H2
theorem s_forE (h : t σ H fun ws H1 => ∃ a xs, ws = [.ref a] ∧ SqL K H1 a xs ∧ ForJ (Ite K a) g tb D σ H1) : tFor (iEnum K t) g tb D σ H := h
theorem s_forZ (h : t σ H fun ws H1 => ∃ a b xs ys, ws = [.ref a, .ref b] ∧ ((SqL K H1 a xs ∧ SqL K H1 b ys ∧ ForJ (Itz K a b) g tb D σ H1) ∨ (SqT K H1 a xs ∧ SqT K H1 b ys ∧ ForJ (ItzT K a b) g tb D σ H1))) : tFor (iZipA K t) g tb D σ H := h
theorem s_joinL {l : Addr} {a : Str} {ys : List Str} (hl : H l = some (.lst (ys.map V.str))) (hz : (ys.map (·.length)).sum + ys.length * a.length ≤ 16777216) (k : Q (.str (Txt.join a ys)) H) :
    ∃ b p, ∃ zs : List Str, V.str a = .str b ∧ [V.ref l] = [.ref p] ∧ (SqL K H p (zs.map V.str) ∨ SqT K H p (zs.map V.str)) ∧ (zs.map (·.length)).sum + zs.length * b.length ≤ 16777216 ∧ Q (.str (Txt.join b zs)) H :=
  ⟨a, l, ys, rfl, rfl, .inl (.inl (.inl hl)), hz, k⟩
theorem s_orT (h : ta σ H fun x H1 => ∃ k, TruV K x H1 k ∧ if k = true then Q x H1 else te σ H1 Q) : tOrT K ta te σ H Q := h
end
section
variable {K : PySem.W.Frag} {σ : L2.St} {H : Hp} {Q : VK}
theorem s_lcTp {te ta : TE} {g : TG} {tt : TT} {vs : List Nat} (h : ta σ H fun x H1 => ∃ a, x = .ref a ∧ (∃ xs, SqT K H1 a xs) ∧ LC (Itt K a) g tt te vs σ H1 Q) : tLc (iTup K ta) g tt te vs σ H Q := h
/-- [f(x) for x in t if p(x)], t a tuple, by the places -/
theorem lcTI {te : TE} {a : Addr} {xs : List V} {j : Nat} {tt : TT} {vs : List Nat} (b : Nat → Bool) (f : Nat → V) (ha : H a = some (.tup xs)) (hz : xs.length < sizeLine) (hw : ∀ x, wipe ((wipe σ vs).set j (some x)) vs = wipe σ vs)
    (ht : ∀ (i : Nat) (x : V) (H1 : Hp) (R : Bool → Hp → Prop), xs[i]? = some x → Ex H H1 → R (b i) H1 → tt ((wipe σ vs).set j (some x)) H1 R) (he : ∀ (i : Nat) (x : V) (H1 : Hp) (R : VK), xs[i]? = some x → b i = true → Ex H H1 → (∀ H2, Ex H1 H2 → R (f i) H2) → te ((wipe σ vs).set j (some x)) H1 R)
    (k : ∀ D H2, H D = none → Ex H H2 → H2 D = some (.lst (((List.range xs.length).filter b).map f)) → Q (.ref D) H2) : LC (Itt K a) (gName j) tt te vs σ H Q := by
  intro D hD
  refine lc_tup (K := K) (a := a) (xs := xs) (fun n H1 => Ex H H1 ∧ H1 D = some (.lst (((List.range n).filter b).map f))) ⟨ex_new hD, upd_same⟩ (fun n H1 _ ⟨e, _⟩ => .inl (.inl (e _ _ ha))) (fun n x H1 hx ⟨e, h1⟩ => ?_) (fun H1 ⟨e, h1⟩ => k D H1 hD e h1)
  have hn : n < xs.length := (List.getElem?_eq_some_iff.mp hx).1
  have er : List.range (n + 1) = List.range n ++ [n] := List.range_succ
  refine ⟨hw _, ht n x H1 _ hx e ?_⟩
  cases hb : b n with
  | true =>
    refine iteT (he n x H1 _ hx hb e fun H2 e2 => ⟨_, e2 _ _ h1, ?_, fun c o hc => ?_, ?_⟩)
    · rw [List.length_map]
      exact Nat.lt_of_le_of_lt (Nat.le_trans (List.length_filter_le _ _) (by rw [List.length_range]; omega)) hz
    · rw [upd_ne (ne_of_none hc hD)]; exact e2 _ _ (e _ _ hc)
    · rw [upd_same, er, List.filter_append, List.map_append]
      simp [hb]
  | false =>
    refine iteF ⟨e, ?_⟩
    rw [er, List.filter_append]
    simpa [hb] using h1
theorem range_true (n : Nat) : (List.range n).filter (fun _ => true) = List.range n := List.filter_eq_self.mpr fun _ _ => rfl
theorem range_map {α : Type} (xs : List α) (d : α) {β : Type} (f : α → β) : (List.range xs.length).map (fun i => f (xs.getD i d)) = xs.map f := by
  refine List.ext_getElem (by simp) fun i h1 h2 => ?_
  simp only [List.getElem_map, List.getElem_range]
  rw [List.getD_eq_getElem?_getD, List.getElem?_eq_getElem (by simpa using h2)]; rfl
end
theorem lt8000 {x : Int} (h0 : 0 ≤ x) (h1 : x ≤ 10 ^ 40) : x.natAbs < 2 ^ 8000 := by
  obtain ⟨m, rfl⟩ : ∃ m : Nat, x = (m : Int) := ⟨x.toNat, by omega⟩
  rw [Int.natAbs_natCast]
  have e : ((10 ^ 40 : Nat) : Int) = 10 ^ 40 := by decide +kernel
  rw [← e] at h1
  exact Nat.lt_of_le_of_lt (Int.ofNat_le.mp h1) (Nat.lt_of_lt_of_le (by decide +kernel : 10 ^ 40 < 2 ^ 200) (Nat.pow_le_pow_right (by decide) (by decide)))
theorem lt8000s {x : Int} (h0 : 0 ≤ x) (h1 : x ≤ 1000000) : x.natAbs < 2 ^ 8000 := lt8000 h0 (Int.le_trans h1 (by decide +kernel))
theorem penNf {H : Hp} {a q : Addr} {n : Nat} (p : Pen H a n) (h : H q = none) : q ≠ a := fun z => by
  obtain ⟨c, _, h1, _⟩ := p
  rw [z, h1] at h; cases h
theorem ints_of : ∀ {ys : List V}, (∀ y ∈ ys, ∃ n, y = .int n ∧ siz n) → ∃ ns : List Int, ys = ns.map V.int ∧ ∀ n ∈ ns, siz n
  | [], _ => ⟨[], rfl, fun _ h => nomatch h⟩
  | y :: r, h => by
    obtain ⟨ns, e, h2⟩ := ints_of fun y hy => h y (List.mem_cons_of_mem _ hy)
    obtain ⟨n, rfl, hn⟩ := h y List.mem_cons_self
    exact ⟨n :: ns, by rw [e]; rfl, fun m hm => (List.mem_cons.mp hm).elim (fun z => by rw [z]; exact hn) (h2 m)⟩
def txtC (ns : List Int) : Str := Txt.join " " (if ns = [] then ["-"] else ns.map strOf)
def spStrC (C : Addr) : Sp := fun vs H Q _ => ∃ p ns, vs = [.ref p] ∧ Ck C H p ns ∧ ns.length ≤ 5000 ∧ (∀ n ∈ ns, siz n) ∧ ∀ H', Ex H H' → Q (.str (txtC ns)) H'
theorem eqv_ints : ∀ ns ms : List Int, PyData.eqvAll (ns.map PyData.int) (ms.map PyData.int) = decide (ns = ms)
  | [], [] => rfl
  | [], _ :: _ => rfl
  | _ :: _, [] => rfl
  | n :: r, m :: s => by
    have ih := eqv_ints r s
    simp only [List.map_cons]
    first
      | (unfold PyData.eqvAll; rw [ih]; rw [show PyData.eqv (.int n) (.int m) = decide (n = m) by first | rfl | (simp [PyData.eqv])]; by_cases h1 : n = m <;> by_cases h2 : r = s <;> simp [h1, h2])
theorem eqv_tup (ns ms : List Int) : PyData.eqv (.tuple (ns.map PyData.int)) (.tuple (ms.map PyData.int)) = decide (ns = ms) := by
  unfold PyData.eqv
  exact eqv_ints ns ms
theorem shTup (ns : List Int) : SeqAt.shaped (.tuple (ns.map PyData.int)) = true := by
  have h := shInts ns
  unfold SeqAt.shaped PyData.canLay0 PyData.depth at h ⊢
  exact h
end L3
end
section
local macro_rules | `(tactic| tm_at "s1") => `(tactic| first
  | with_reducible first
    | refine L3.s_seq ?_ | refine L3.s_asg ?_ | refine L3.s_op ?_ | refine L3.s_c ?_ | refine L3.s_cb ?_ | refine L3.s_cons ?_ | refine L3.s_nil ?_ | refine L3.s_test ?_ | refine L3.s_bl ?_
    | refine L3.s_I0 ?_ | refine L3.s_and ?_ | refine L3.s_or ?_ | refine L3.s_not ?_ | refine L3.s_if ?_ | refine L3.s_next ?_ | refine L3.s_ret ?_ | refine L3.s_retN ?_ | refine L3.s_asgS ?_ | refine L3.s_drop ?_
    | refine L3.s_un ?_ | refine L3.s_U ?_ | refine L3.s_int ?_ | refine L3.s_intB ?_ | refine L3.s_abs ?_ | refine L3.s_andV ?_ | refine L3.s_orV ?_ | refine L3.s_notV ?_ | refine L3.s_ifE ?_ | refine L3.s_call ?_ | refine L3.s_lst ?_ | refine L3.s_tup ?_ | refine L3.s_tB ?_
    | refine L3.s_addI ?_ | refine L3.s_inS ?_ | refine L3.s_ninS ?_ | refine L3.s_slice ?_ | refine L3.s_part ?_ | refine L3.s_partI ?_ | refine L3.s_nopart ?_ | refine L3.s_cI ?_ | refine L3.s_cB ?_ | refine L3.s_chain ?_ | refine L3.s_bm ?_ | refine L3.s_lcS ?_ | refine L3.s_lcR ?_ | refine L3.s_strE ?_
    | refine L2.iteT ?_ | refine L2.iteF ?_ | refine L3.iteNF ?_ | refine L3.iteNT ?_
    | refine L3.s_eqI ?_ | refine L3.s_neI ?_ | refine L3.s_eqS ?_ | refine L3.s_neS ?_
    | refine L3.s_pair ?_ | refine L3.s_pair2 ?_ | refine L3.s_fld ?_ | refine L3.s_make ?_ | refine L3.s_m1 ?_ | refine L3.s_isstr ?_
    | refine L3.s_xfV ?_ | refine L3.s_lstN ?_ | refine L3.s_callF ?_ | refine L3.s_lcL ?_ | refine L3.s_par3 ?_ | refine L3.s_trip ?_ | refine L3.s_asgT' ?_ | refine L3.s_gC ?_ | refine L3.s_gN ?_ | refine L3.s_fldG ?_ | refine L3.s_raise1 ?_ | refine L3.s_raise2 ?_ | refine L3.s_star ?_ | refine L3.s_mkCR ?_ | refine L3.s_lcZ ?_ | refine L3.s_forL ?_ | refine L3.s_forT ?_ | refine L3.s_gNm ?_ | refine L3.s_forE ?_ | refine L3.s_stC ?_ | refine L3.s_cmC ?_ | refine L3.s_forR1 ?_ | refine L3.s_lcTp ?_ | refine L3.s_forZ ?_ | refine L3.s_orT ?_
    | refine L3.s_isN ?_ | refine L3.s_isB ?_ | refine L3.s_nisN ?_ | refine L3.s_nisB ?_
  | ((with_reducible refine' L3.s_var ?e ?_); (case e => rfl))
  | ((with_reducible refine' L3.s_aug ?e ?_); (case e => rfl))
  | ((with_reducible refine' L3.s_pow ?c ?_); (case c => exact ⟨by decide, by decide, by decide⟩)))
local macro_rules | `(tactic| tm_at "s") => `(tactic| repeat tm_at "s1")
namespace K09
open PySem PySem.Spec PyProof.Rows L2 L3 LamX
abbrev s__law_pen : Stmt := topS 29
theorem sc__law_pen : FnScope ["_law_script"] ["_law_script"] (defScope s__law_pen) := ⟨rfl, rfl, rfl, by decide +kernel, rfl, by decide +kernel, by decide +kernel⟩
abbrev s__law_draw : Stmt := topS 30
theorem sc__law_draw : FnScope ["_law_pen_here", "_law_many", "_law_digit", "_law_spot", "_law_cell", "_law_great", "_law_mixed"] ["_law_pen_here", "_law_many"] (defScope s__law_draw) := ⟨rfl, rfl, rfl, by decide +kernel, rfl, by decide +kernel, by decide +kernel⟩
abbrev s__law_pick : Stmt := topS 31
theorem sc__law_pick : FnScope ["_law_pen_here", "_law_some"] ["_law_pen_here", "_law_some"] (defScope s__law_pick) := ⟨rfl, rfl, rfl, by decide +kernel, rfl, by decide +kernel, by decide +kernel⟩
abbrev s__law_sizes : Stmt := topS 33
abbrev names__law_sizes : List Str := ["_law_pen_here", "_law_most", "_law_some", "_law_spot"]
theorem sc__law_sizes : FnScope ["_law_pen_here", "_law_most", "_law_some", "_law_spot"] ["_law_pen_here", "_law_most"] (defScope s__law_sizes) := ⟨rfl, rfl, rfl, by decide +kernel, rfl, by decide +kernel, by decide +kernel⟩
section
variable {P : Program} {w : World} {K : PySem.W.Frag} {mg : Str → Option Value} {base : Heap} {C CB CC CM CL CT CN CW : Addr}
theorem ok_pen {f : Addr} {fd : FuncData} (F : Fun K "_law_pen" "_law_pen" s__law_pen f fd) (T : Txt K mg C CB CC CM CL CT CN CW) : FnG P w K mg base CX0 1 f fd ["_law_script"] (spPen K) := by
  refine funG F sc__law_pen (fun vs H Q E h => ?_) (fun cd A fr s H vs Q E hr hg h => ?_)
  · obtain ⟨a, ns, rfl, _⟩ := h; rfl
  · obtain ⟨a, ns, rfl, hs, hl, k⟩ := h
    refine ⟨_, pss_penNew ((pss_one (ps_ret (pe_lst (pa_cons (pe_callTy (KX.callList (K := K) rfl rfl) (by rfl) T.b_list (by decide +kernel) (pa_cons (pe_slice (KX.slU (K := K)) (pv 0) po_none (po_some pe_int)) pa_nil)) (pa_cons pe_int (pa_cons pe_int pa_nil))))))), ?_⟩
    show (tRet _ : TS) _ _ _
    tm_at "s"
    refine s_slL hs fun q H1 hq e1 h1 => ?_
    tm_at "s"
    refine s_listL (.inl (.inl h1)) fun l H2 hl2 e2 h2 => ?_
    tm_at "s"
    refine s_new (Nat.le_of_lt (small1000 (by simp))) fun p H3 hp e3 h3 => ?_
    have hH : H p = none := e1.free (e2.free hp)
    have nlp : l ≠ p := ne_of_none h2 hp
    have hHl : H l = none := e1.free hl2
    refine ⟨p, l, 0, ns.take 63, rfl, h3, ?_, nlp, k p _ hH (fun b o hb => ?_) ⟨l, ns.take 63, ?_, upd_same, ?_, nlp⟩⟩
    · rw [e3 _ _ h2]
      have : cutV (ns.map V.int) none (some 63) = (ns.take 63).map V.int := by
        unfold cutV
        show ((ns.map V.int).drop 0).take (HT.sIx (ns.map V.int).length (ns.map V.int).length (some (63 : Nat)) - 0) = _
        rw [HT.sIx_nat, List.drop_zero, List.length_map, Nat.sub_zero, List.map_take]
        rw [List.take_eq_take_iff]
        simp
      rw [this]
    · rw [upd_ne (ne_of_none hb hHl), upd_ne (ne_of_none hb hH)]
      exact e3 _ _ (e2 _ _ (e1 _ _ hb))
    · rw [upd_ne (Ne.symm nlp)]; exact upd_same
    · rw [List.length_take]; omega
theorem drawC : DrawC 67681 1735 2147483269 82882 821 2147483249 119 36817 399 2147483237 := ⟨by decide, by decide, by decide, by decide, by decide, by decide, by decide, by decide, by decide⟩
theorem ok_draw {f : Addr} {fd : FuncData} (F : Fun K "_law_draw" "_law_draw" s__law_draw f fd) (T : Txt K mg C CB CC CM CL CT CN CW) : FnG P w K mg base CX0 1 f fd ["_law_pen_here", "_law_many"] spDraw := by
  refine funG F sc__law_draw (fun vs H Q E h => ?_) (fun cd A fr s H vs Q E hr hg h => ?_)
  · obtain ⟨a, n, many, rfl, _⟩ := h; rfl
  · obtain ⟨a, n, many, rfl, hm, hm2, ⟨c, ns, ha, hc, hl⟩, hn, k⟩ := h
    refine ⟨_, pss_sc c ns (pss_pen a c n (n + 1) ((pss_cons (ps_if (pt_cmpR op_gt (pe_ix (KX.ixU (K := K)) (pv 0) pe_int (fun _ _ => rfl)) pe_int (nomark _)) (pss_cons (ps_set (i := 2) sc__law_draw.nd rfl (Or.inl rfl) (pe_op op_mod (pe_callTy (KX.callInt (K := K)) (by rfl) T.b_int (by decide +kernel) (pa_cons (pe_ix (KX.ixU (K := K)) (pv 0) pe_int (fun _ _ => rfl)) pa_nil)) (pv 1)))
      (pss_cons (ps_asg (pe_op op_fdivW (pe_callTy (KX.callInt (K := K)) (by rfl) T.b_int (by decide +kernel) (pa_cons (pe_ix (KX.ixU (K := K)) (pv 0) pe_int (fun _ _ => rfl)) pa_nil)) (pv 1)) (pg_sub (pv 0) pe_int set_list))
      (pss_one (ps_ret (pv 2))))) pss_nil)
      (pss_cons (ps_set (i := 3) sc__law_draw.nd rfl (Or.inl rfl) (pe_ix (KX.ixU (K := K)) (pv 0) pe_int (fun _ _ => rfl)))
      (pss_cons (ps_asg (pe_op opAdd (pv 3) pe_int) (pg_sub (pv 0) pe_int set_list))
      (pss_cons (ps_set (i := 4) sc__law_draw.nd rfl (Or.inl rfl) (pe_op opAdd (pe_op opMul pe_int (pv 3)) pe_int))
      (Evl.pss_cut (ps_if (pt_cmpR (KX.neU (K := K) rfl hr.units) (pe_ix (KX.ixU (K := K)) (pv 0) pe_int (fun _ _ => rfl)) (pe_lst pa_nil) (nomark _)) (pss_one (ps_set (i := 4) sc__law_draw.nd rfl (Or.inl rfl) (pe_ix (KX.ixU (K := K)) (pe_ix (KX.ixU (K := K)) (pv 0) pe_int (fun _ _ => rfl)) (pe_op op_mod (pe_callTy (KX.callInt (K := K)) (by rfl) T.b_int (by decide +kernel) (pa_cons (pv 3) pa_nil)) (pe_callB (KX.callLen (K := K)) (by rfl) T.b_len (by decide +kernel) (pa_cons (pe_ix (KX.ixU (K := K)) (pv 0) pe_int (fun _ _ => rfl)) pa_nil))) (fun _ _ => rfl)))) pss_nil)
      (pss_cons (ps_if (PW.pt (pw_and (pt_cmpR op_lt (pv 3) (pe_callB (KX.callLen (K := K)) (by rfl) T.b_len (by decide +kernel) (pa_cons (pe_ix (KX.ixU (K := K)) (pv 0) pe_int (fun _ _ => rfl)) pa_nil)) (nomark _)) (pw_and1 (pt_cmpR op_ge (pe_callB call_abs (by rfl) T.b_abs (by decide +kernel) (pa_cons (pv 4) pa_nil)) (pe_op op_pow pe_int pe_int) (nomark _))))) (pss_cons (ps_set (i := 5) sc__law_draw.nd rfl (Or.inl rfl) (pe_op opAdd (pe_op opMul pe_int (pe_op op_sub (pe_callB call_abs (by rfl) T.b_abs (by decide +kernel) (pa_cons (pv 4) pa_nil)) (pe_op op_pow pe_int pe_int))) (pe_callTy (KX.callInt (K := K)) (by rfl) T.b_int (by decide +kernel) (pa_cons (pe_cmpR op_lt (pv 4) pe_int (nomark _)) pa_nil))))
      (pss_cons (ps_asg (pe_op op_fdivW (pe_callTy (KX.callInt (K := K)) (by rfl) T.b_int (by decide +kernel) (pa_cons (pv 5) pa_nil)) (pv 1)) (pg_sub (pv 0) pe_int set_list))
      (pss_one (ps_ret (pe_op op_mod (pe_callTy (KX.callInt (K := K)) (by rfl) T.b_int (by decide +kernel) (pa_cons (pv 5) pa_nil)) (pv 1)))))) pss_nil)
      (pss_cons (ps_set (i := 6) sc__law_draw.nd rfl (Or.inl rfl) (pe_op op_mod (pe_callTy (KX.callInt (K := K)) (by rfl) T.b_int (by decide +kernel) (pa_cons (pe_op op_pow (pe_op opAdd (pe_op opAdd (pe_op op_mod (pe_callTy (KX.callInt (K := K)) (by rfl) T.b_int (by decide +kernel) (pa_cons (pv 4) pa_nil)) pe_int) (pe_op opMul pe_int (pv 3))) pe_int) pe_int) pa_nil)) pe_int))
      (pss_cons (ps_set (i := 6) sc__law_draw.nd rfl (Or.inl rfl) (pe_op op_mod (pe_callTy (KX.callInt (K := K)) (by rfl) T.b_int (by decide +kernel) (pa_cons (pe_op op_pow (pe_op opAdd (pe_op opAdd (pe_op opMul (pv 6) (pe_op opAdd (pe_op opMul pe_int (pv 3)) pe_int)) (pe_op opMul (pe_op opMul pe_int (pv 3)) (pv 3))) pe_int) pe_int) pa_nil)) pe_int))
      (pss_one (ps_ret (pe_op op_mod (pe_callTy (KX.callInt (K := K)) (by rfl) T.b_int (by decide +kernel) (pa_cons (pe_op op_fdivW (pv 6) pe_int) pa_nil)) (pv 1)))))))))))))), ?_⟩
    exact rd_drawS drawC hm hm2 ha hc hn hl k
theorem ok_pick {f : Addr} {fd : FuncData} (F : Fun K "_law_pick" "_law_pick" s__law_pick f fd) (T : Txt K mg C CB CC CM CL CT CN CW) (c__law_draw : Fn P w K mg base CX0 1 "_law_draw" ["_law_pen_here", "_law_many"] spDraw) :
    FnG P w K mg base CX0 2 f fd ["_law_pen_here", "_law_some"] spPick := by
  refine funG F sc__law_pick (fun vs H Q E h => ?_) (fun cd A fr s H vs Q E hr hg h => ?_)
  · obtain ⟨a, l, n, xs, rfl, _⟩ := h; rfl
  · obtain ⟨a, l, n, xs, rfl, hl, hne, hlen, hp, hn, k⟩ := h
    refine ⟨_, (pss_one (ps_ret (pe_ix (KX.ixU (K := K)) (pv 1) (pe_f c__law_draw hr hg pass0 (pa_cons (pv 0) (pa_cons (pe_callB (KX.callLen (K := K)) (by rfl) T.b_len (by decide +kernel) (pa_cons (pv 1) pa_nil)) pa_nil))) (fun _ _ => rfl)))), ?_⟩
    tm_at "s"
    refine s_lenL hl ?_
    have hpos : 0 < xs.length := List.length_pos_iff.mpr hne
    refine ⟨a, n, _, rfl, by omega, ?_, hp, hn, fun d H' d0 d1 hp' hk => ?_⟩
    · rw [Int.natAbs_natCast]
      exact Nat.lt_of_le_of_lt hlen (Nat.lt_of_lt_of_le (by decide : 100000 < 2 ^ 20) (Nat.pow_le_pow_right (by decide) (by decide)))
    · have nl : l ≠ a := hp.ne hl fun c n z => by unfold PenO at z; cases z
      have hd : d.toNat < xs.length := by omega
      refine s_iL (v := xs[d.toNat]) (hk l _ nl hl) (by rw [atI_int d0 d1, List.getElem?_eq_getElem hd]) ?_
      exact k _ _ (List.getElem_mem hd) hp' hk
def spSizes : Sp := fun vs H Q _ => ∃ a n most, vs = [.ref a, .int most] ∧ 0 ≤ most ∧ most ≤ 100 ∧ Pen H a n ∧ n + 300 < lim ∧
  ∀ l H' m ns, m ≤ n + 201 → H l = none → (∀ b o, b ≠ a → H b = some o → H' b = some o) → Pen H' a m → H' l = some (.lst ((ns : List Int).map V.int)) → (∀ x ∈ ns, siz x) → ns.length ≤ most → Q (.ref l) H'
theorem ok_sizes {f : Addr} {fd : FuncData} (F : Fun K "_law_sizes" "_law_sizes" s__law_sizes f fd) (T : Txt K mg C CB CC CM CL CT CN CW) (c__law_draw : Fn P w K mg base CX0 1 "_law_draw" ["_law_pen_here", "_law_many"] spDraw) (c__law_pick : Fn P w K mg base CX0 2 "_law_pick" ["_law_pen_here", "_law_some"] spPick) :
    FnG P w K mg base CX0 3 f fd ["_law_pen_here", "_law_most"] spSizes := by
  refine funG F sc__law_sizes (fun vs H Q E h => ?_) (fun cd A fr s H vs Q E hr hg h => ?_)
  · obtain ⟨a, n, most, rfl, _⟩ := h; rfl
  · obtain ⟨a, n, most, rfl, h0, h1, hp, hn, k⟩ := h
    refine ⟨_, (pss_cons (ps_set (i := 2) sc__law_sizes.nd rfl (Or.inr rfl) (pe_lst (pa_cons pe_int (pa_cons pe_int (pa_cons pe_int (pa_cons pe_int (pa_cons pe_int (pa_cons pe_int (pa_cons (pe_op op_pow pe_int pe_int) (pa_cons (pe_op op_sub (pe_op op_pow pe_int pe_int) pe_int) pa_nil))))))))))
      (pss_one (ps_ret (pe_lc (own := [("_law_spot", 3)]) (g := gName 3) (tt := tYes) (by rfl) sc__law_sizes.nd (pi_range1 (by rfl) T.b_range (pa_cons (pe_f c__law_draw hr hg pass0 (pa_cons (pv 0) (pa_cons (pe_op opAdd (pv 1) pe_int) pa_nil))) pa_nil)) (blkOk_by (own := [("_law_spot", 3)]) (N := names__law_sizes) (sc := defScope s__law_sizes) (by decide +kernel)) (fun _ _ _ _ _ => pg_name (i := 3) sc__law_sizes.nd rfl (Or.inl rfl)) (fun _ _ _ _ _ => pts_nil) (fun _ _ _ _ _ => (pe_f c__law_pick hr hg pass0 (pa_cons (pv 0) (pa_cons (pe_op opAdd (pv 2) (pe_lst (pa_cons (pe_op opAdd pe_int (pe_f c__law_draw hr hg pass0 (pa_cons (pv 0) (pa_cons pe_int pa_nil)))) pa_nil))) pa_nil)))))))), ?_⟩
    tm_at "s"
    refine s_new (Nat.le_of_lt (small1000 (by simp))) fun q H1 hq e1 hq1 => ?_
    try dsimp only
    tm_at "s"
    refine ⟨a, n, most + 1, rfl, by omega, lt8000s (by omega) (by omega), hp.ex e1, by omega, fun d H2 d0 d1 hp2 k2 => ?_⟩
    have hqa : q ≠ a := penNf hp hq
    have s9 : ∀ v ∈ ([.int 1, .int 1, .int 2, .int 3, .int 5, .int 8, .int (10 ^ 30), .int (10 ^ 30 - 7)] : List V), ∃ n, v = .int n ∧ siz n := by
      intro v hv
      simp only [List.mem_cons, List.not_mem_nil, or_false] at hv
      rcases hv with rfl | rfl | rfl | rfl | rfl | rfl | rfl | rfl <;> exact ⟨_, rfl, by unfold siz; decide +kernel⟩
    refine ⟨d, rfl, by omega, by omega, lcPen (q := 2) (fun y => ∃ n, y = .int n ∧ siz n) hp2 (Nat.lt_of_le_of_lt (show d.toNat ≤ 1000 by omega) (by decide)) (fun _ => rfl) (fun i H3 m R hi k3 hp3 hm r => ?_) fun D H3 m ys nD k3 hp3 hm hl hp hD => ?_⟩
    · have hq3 := k3 _ _ hqa (k2 _ _ hqa hq1)
      tm_at "s"
      refine ⟨a, m, 1000, rfl, by decide, by decide +kernel, hp3, by omega, fun x H4 x0 x1 hp4 k4 => ?_⟩
      have hq4 := k4 _ _ hqa hq3
      tm_at "s"
      refine s_new (Nat.le_of_lt (small1000 (by simp))) fun u H5 hu e5 hu5 => ?_
      refine s_addL (e5 _ _ hq4) hu5 (Nat.le_of_lt (small1000 (by simp))) fun z H6 hz e6 hz6 => ?_
      tm_at "s"
      refine ⟨a, z, m + 1, _, rfl, hz6, by simp, by simp, hp4.ex (e5.trans e6), by omega, fun v H7 hv hp7 k7 => ?_⟩
      refine r v H7 (m + 1 + 1) (fun b o hb h => k7 b o hb (e6 _ _ (e5 _ _ (k4 b o hb h)))) hp7 (by omega) ?_
      rcases List.mem_append.mp hv with hv | hv
      · exact s9 v hv
      · rw [List.mem_singleton] at hv
        subst hv
        exact ⟨_, rfl, by omega, by omega⟩
    · obtain ⟨ns, rfl, hns⟩ := ints_of hp
      rw [List.length_map] at hl
      have hHD : H D = none := by
        cases z : H D with
        | none => rfl
        | some o => 
          have hDa : D ≠ a := fun z2 => by rw [z2] at nD; obtain ⟨c, _, h1, _⟩ := hp2; rw [nD] at h1; cases h1
          rw [k2 _ _ hDa (e1 _ _ z)] at nD; cases nD
      refine k D H3 m ns (by omega) hHD (fun b o hb h => k3 b o hb (k2 b o hb (e1 _ _ h))) hp3 hD hns (by omega)
end
end K09
end
section
local macro_rules | `(tactic| tm_at "s1") => `(tactic| first
  | with_reducible first
    | refine L3.s_seq ?_ | refine L3.s_asg ?_ | refine L3.s_op ?_ | refine L3.s_c ?_ | refine L3.s_cb ?_ | refine L3.s_cons ?_ | refine L3.s_nil ?_ | refine L3.s_test ?_ | refine L3.s_bl ?_
    | refine L3.s_I0 ?_ | refine L3.s_and ?_ | refine L3.s_or ?_ | refine L3.s_not ?_ | refine L3.s_if ?_ | refine L3.s_next ?_ | refine L3.s_ret ?_ | refine L3.s_retN ?_ | refine L3.s_asgS ?_ | refine L3.s_drop ?_
    | refine L3.s_un ?_ | refine L3.s_U ?_ | refine L3.s_int ?_ | refine L3.s_intB ?_ | refine L3.s_abs ?_ | refine L3.s_andV ?_ | refine L3.s_orV ?_ | refine L3.s_notV ?_ | refine L3.s_ifE ?_ | refine L3.s_call ?_ | refine L3.s_lst ?_ | refine L3.s_tup ?_ | refine L3.s_tB ?_
    | refine L3.s_addI ?_ | refine L3.s_inS ?_ | refine L3.s_ninS ?_ | refine L3.s_slice ?_ | refine L3.s_part ?_ | refine L3.s_partI ?_ | refine L3.s_nopart ?_ | refine L3.s_cI ?_ | refine L3.s_cB ?_ | refine L3.s_chain ?_ | refine L3.s_bm ?_ | refine L3.s_lcS ?_ | refine L3.s_lcR ?_ | refine L3.s_strE ?_
    | refine L2.iteT ?_ | refine L2.iteF ?_ | refine L3.iteNF ?_ | refine L3.iteNT ?_
    | refine L3.s_eqI ?_ | refine L3.s_neI ?_ | refine L3.s_eqS ?_ | refine L3.s_neS ?_
    | refine L3.s_pair ?_ | refine L3.s_pair2 ?_ | refine L3.s_fld ?_ | refine L3.s_make ?_ | refine L3.s_m1 ?_ | refine L3.s_isstr ?_
    | refine L3.s_xfV ?_ | refine L3.s_lstN ?_ | refine L3.s_callF ?_ | refine L3.s_lcL ?_ | refine L3.s_par3 ?_ | refine L3.s_trip ?_ | refine L3.s_asgT' ?_ | refine L3.s_gC ?_ | refine L3.s_gN ?_ | refine L3.s_fldG ?_ | refine L3.s_raise1 ?_ | refine L3.s_raise2 ?_ | refine L3.s_star ?_ | refine L3.s_mkCR ?_ | refine L3.s_lcZ ?_ | refine L3.s_forL ?_ | refine L3.s_forT ?_ | refine L3.s_gNm ?_ | refine L3.s_forE ?_ | refine L3.s_stC ?_ | refine L3.s_cmC ?_ | refine L3.s_forR1 ?_ | refine L3.s_lcTp ?_ | refine L3.s_forZ ?_ | refine L3.s_orT ?_
    | refine L3.s_isN ?_ | refine L3.s_isB ?_ | refine L3.s_nisN ?_ | refine L3.s_nisB ?_
  | ((with_reducible refine' L3.s_var ?e ?_); (case e => rfl))
  | ((with_reducible refine' L3.s_aug ?e ?_); (case e => rfl))
  | ((with_reducible refine' L3.s_pow ?c ?_); (case c => exact ⟨by decide, by decide, by decide⟩)))
local macro_rules | `(tactic| tm_at "s") => `(tactic| repeat tm_at "s1")
namespace K09
open PySem PySem.NumText PySem.Spec PyProof.Rows L2 L3 LamX RZ ClX
abbrev s_Chunks___str__ : Stmt := inClass (topS 26) 24
abbrev names_Chunks___str__ : List Str := ["self", "size"]
theorem sc_Chunks___str__ : FnScope ["self", "size"] ["self"] (defScope s_Chunks___str__) := ⟨rfl, rfl, rfl, by decide +kernel, rfl, by decide +kernel, by decide +kernel⟩
abbrev s_Chunks___eq__ : Stmt := inClass (topS 26) 23
theorem sc_Chunks___eq__ : FnScope ["self", "other"] ["self", "other"] (defScope s_Chunks___eq__) := ⟨rfl, rfl, rfl, by decide +kernel, rfl, by decide +kernel, by decide +kernel⟩
theorem all_map {α : Type} (f : α → Bool) (l : List α) : (l.map f).all id = l.all f := by rw [List.all_map]; rfl
theorem sz_of {n : Nat} (h : n ≤ 100000) : n < sizeLine := Nat.lt_of_le_of_lt h (by decide)
section
variable {P : Program} {w : World} {K : PySem.W.Frag} {mg : Str → Option Value} {base : Heap} {C CB CC CM CL CT CN CW : Addr}
theorem ok_str {f : Addr} {fd : FuncData} (F : Fun K "__str__" "Chunks.__str__" s_Chunks___str__ f fd) (T : Txt K mg C CB CC CM CL CT CN CW) : FnOk P w K mg base (L2.CX P w) 1 f fd ["self"] (spStrC C) := by
  refine funO F sc_Chunks___str__ (fun vs H Q E h => ?_) (fun cd A fr s H vs Q E hr h => ?_)
  · obtain ⟨p, ns, rfl, _⟩ := h; rfl
  · obtain ⟨p, ns, rfl, hc, hn, hs, k⟩ := h
    refine ⟨_, (pss_one (ps_ret (L2.pe_join pe_str (pe_orT (pe_lc (own := [("size", 1)]) (g := gName 1) (tt := tYes) (by rfl) sc_Chunks___str__.nd (pi_tup (KX.fld (K := K) rfl (pv 0) rfl)) (blkOk_by (own := [("size", 1)]) (N := names_Chunks___str__) (sc := defScope s_Chunks___str__) (by decide +kernel)) (fun _ _ _ _ _ => pg_name (i := 1) sc_Chunks___str__.nd rfl (Or.inl rfl)) (fun _ _ _ _ _ => pts_nil) (fun _ _ _ _ _ => (pe_joined1 (pe_fmt (pv 1))))) (pe_one (pe_lst (pa_cons pe_str pa_nil))))))), ?_⟩
    tm_at "s"
    obtain ⟨d1, u1, _, _, i1, h1, _⟩ := id hc
    refine ⟨p, C, d1, _, _, rfl, i1, T.c.cl, T.nS, rfl, ?_⟩
    refine ⟨u1, rfl, ⟨_, .inl (.inl h1)⟩, lcTI (fun _ => true) (fun i => .str (L3.strOf (ns.getD i 0))) h1 (by rw [List.length_map]; exact sz_of (by omega)) (fun _ => rfl) (fun i x H1 R hx e r => r) (fun i x H1 R hx _ e r => ?_) fun D H1 nD e1 hD => ?_⟩
    · obtain ⟨n, hn', rfl⟩ := get_int hx
      have hs1 := hs n (List.mem_of_getElem? hn')
      refine ⟨_, rfl, .inr ⟨n, rfl, ?_, ?_⟩⟩
      · exact siz_log hs1
      · have e1' : ns.getD i 0 = n := by rw [List.getD_eq_getElem?_getD, hn']; rfl
        have := r H1 (Ex.refl _)
        rw [e1'] at this
        exact this
    · rw [range_true, List.length_map, range_map ns 0 (fun n => V.str (L3.strOf n))] at hD
      have hm : (ns.map fun n => V.str (L3.strOf n)) = (ns.map L3.strOf).map V.str := by rw [List.map_map]; rfl
      rw [hm] at hD
      refine ⟨!(((ns.map L3.strOf).map V.str).isEmpty), .inl ⟨_, .inl (.inl hD), rfl⟩, ?_⟩
      by_cases hz : ns = []
      · subst hz
        refine iteF ?_
        tm_at "s"
        refine s_new (Nat.le_of_lt (small1000 (by simp))) fun l H2 nl e2 h2 => ?_
        exact s_joinL (ys := ["-"]) h2 (by decide +kernel) (k H2 (e1.trans e2))
      · have hb : (!(((ns.map L3.strOf).map V.str).isEmpty)) = true := by cases ns with | nil => exact absurd rfl hz | cons _ _ => rfl
        rw [hb]
        refine iteT ?_
        refine s_joinL (ys := ns.map L3.strOf) hD ?_ ?_
        · have hlen : ∀ l : List Int, (∀ n ∈ l, siz n) → ((l.map L3.strOf).map (·.length)).sum ≤ 31 * l.length := by
            intro l
            induction l with
            | nil => intro _; simp
            | cons a r ih =>
              intro h
              have := ih fun n hn => h n (List.mem_cons_of_mem _ hn)
              have := (numS_str (h a List.mem_cons_self)).2.2.1
              simp only [List.map_cons, List.sum_cons, List.length_cons]
              omega
          have := hlen ns hs
          have hl1 : (" " : Str).length = 1 := by decide +kernel
          rw [List.length_map, hl1]
          omega
        · have := k H1 e1
          unfold txtC at this
          rw [if_neg hz] at this
          exact this
theorem ok_eq {f : Addr} {fd : FuncData} (F : Fun K "__eq__" "Chunks.__eq__" s_Chunks___eq__ f fd) (T : Txt K mg C CB CC CM CL CT CN CW) : FnOk P w K mg base (L2.CX P w) 1 f fd ["self", "other"] (spCkEq K C) := by
  refine funO F sc_Chunks___eq__ (fun vs H Q E h => ?_) (fun cd A fr s H vs Q E hr h => ?_)
  · obtain ⟨p, y, ns, rfl, _⟩ := h; rfl
  · obtain ⟨p, y, ns, rfl, hc, hy⟩ := h
    refine ⟨_, (pss_one (ps_ret (pe_and (pe_callB (KX.callIsi (K := K)) (by rfl) T.b_isinstance (by decide +kernel) (pa_cons (pv 1) (pa_cons (C8.pe_gc (by rfl) T.g_Chunks) pa_nil))) (pe_one (pe_cmpR (KX.eqU (K := K) rfl hr.units) (KX.fld (K := K) rfl (pv 0) rfl) (KX.fld (K := K) rfl (pv 1) rfl) (nomark _)))))), ?_⟩
    tm_at "s"
    rcases hy with ⟨q, ms, rfl, hq, k⟩ | ⟨⟨ty, t1, t2⟩, k⟩
    · obtain ⟨dx, _, _, _, hq1, _⟩ := id hq
      refine s_isiC (T.c.ty hq1) T.c.kC ?_
      tm_at "s"
      obtain ⟨d1, u1, _, _, i1, h1, _⟩ := id hc
      obtain ⟨d2, u2, _, _, i2, h2, _⟩ := id hq
      refine ⟨p, C, d1, _, _, rfl, i1, T.c.cl, T.nS, rfl, ?_⟩
      tm_at "s"
      refine ⟨q, C, d2, _, _, rfl, i2, T.c.cl, T.nS, rfl, ?_⟩
      refine .inr (s_eqD (.tup (.inl (.inl h1)) (dpInts ns)) (.tup (.inl (.inl h2)) (dpInts ms)) (shTup ns) (shTup ms) ?_)
      rw [eqv_tup]
      exact k
    · refine s_isiC t1 t2 ?_
      tm_at "s"
      exact k
end
end K09
end
section
namespace L3
open PySem PySem.NumText PySem.Spec PyProof.Rows L2 LamX RZ
section
variable {σ : L2.St} {H : Hp} {g : TG} {tb : TS} {D : Ends}
theorem s_forR1 {tr : TA} (h : tr σ H fun ws H1 => ∃ j : Int, ws = [.int j] ∧ -(2 ^ 62) ≤ j ∧ j < 2 ^ 62 ∧ ForJ (Itr 0 j.toNat) g tb D σ H1) : tFor (iRng1 tr) g tb D σ H := h
theorem forRg {lo : Int} {n : Nat} (Pv : Nat → L2.St → Hp → Prop) (h0 : Pv 0 σ H)
    (hb : ∀ (i : Nat) σ H, i < n → Pv i σ H → g (.int (lo + (i : Int))) σ H fun σ2 H2 => tb { nx := Pv (i + 1), rt := D.rt, bk := D.nx, ct := Pv (i + 1) } σ2 H2)
    (he : ∀ σ H, Pv n σ H → D.nx σ H) : ForJ (Itr lo n) g tb D σ H :=
  for_it walk_range Pv h0 (fun i σ H _ h => trivial) (fun i x σ H1 H2 hi hp hy => by
    obtain ⟨rfl, rfl⟩ := hy
    exact hb i σ _ hi hp) he
end
/-- a plain text of at most m signs -/
def Pt (m : Nat) (z : Str) : Prop := z.length ≤ m ∧ ∀ c ∈ z.cps.toList, c < 1114112
theorem strOkO (s : String) : PyData.strOk (Str.ofString s) = true := by
  unfold PyData.strOk
  have e := ofString_codes s
  rw [← Array.all_toList, e, List.all_map]
  refine List.all_eq_true.mpr fun c _ => ?_
  show decide (c.toNat < 0x110000) = true
  refine decide_eq_true ?_
  rcases c.valid with h | ⟨_, h⟩
  · exact Nat.lt_trans h (by decide)
  · exact h
theorem strOkI (i : Int) : PyData.strOk (PyData.int i).shown = true := by
  show PyData.strOk (Str.ofString (toString i)) = true
  exact strOkO _
section
variable {K : PySem.W.Frag} {H : Hp} {Q : VK}
theorem s_reprI {i : Int} (hi : i.natAbs.log2 < 1920) (h : Q (.str (PyData.int i).shown) H) : rRepr K [.int i] H Q :=
  s_repr (.int i) (decide_eq_true hi) (show 0 ≤ 60 by decide) (Nat.le_trans (fit_shown (x := .int i) (decide_eq_true hi)) (by decide +kernel)) h
theorem log_le {n k : Nat} (h : n ≤ k) (hk : k < 2 ^ 1920) : n.log2 < 1920 := by
  rcases Nat.eq_zero_or_pos n with rfl | hp
  · decide
  · exact (Nat.log2_lt (by omega)).mpr (Nat.lt_of_le_of_lt h hk)
end
section
variable {K : PySem.W.Frag} {σ : L2.St} {H H' : Hp} {Q : VK} {C : Addr}
theorem s_stC {sp : Sp} {E : XK} {t : TA} (h : t σ H fun vs H2 => sp vs H2 Q E) : tSt C sp E (tC (.ref C)) t σ H Q := ⟨rfl, h⟩
theorem s_cmC {sp : Sp} {E : XK} {t : TA} (h : t σ H fun vs H2 => sp (.ref C :: vs) H2 Q E) : ClX.tCMeth C sp E (tC (.ref C)) t σ H Q := ⟨rfl, h⟩
theorem Ck.keep {q a : Addr} {n : Nat} {ns : List Int} (h : Ck C H q ns) (p : Pen H a n) (k : ∀ b o, b ≠ a → H b = some o → H' b = some o) : Ck C H' q ns := by
  obtain ⟨dx, t1, t2, t3, a1, b, c, d⟩ := h
  have nn : ∀ {q : Addr} {o : HO}, H q = some o → (∀ c n, o ≠ PenO a c n) → H' q = some o := fun {q o} e z => k _ _ (p.ne e z) e
  exact ⟨dx, t1, t2, t3, nn a1 (fun c n z => by unfold PenO at z; cases z), nn b (fun c n z => by unfold PenO at z; cases z), nn c (fun c n z => by unfold PenO at z; cases z), nn d (fun c n z => by unfold PenO at z; cases z)⟩
theorem lst_keep {q a : Addr} {n : Nat} {xs : List V} (h : H q = some (.lst xs)) (p : Pen H a n) (k : ∀ b o, b ≠ a → H b = some o → H' b = some o) : H' q = some (.lst xs) := k _ _ (p.ne h (fun c n z => by unfold PenO at z; cases z)) h
theorem tup_keep {q a : Addr} {n : Nat} {xs : List V} (h : H q = some (.tup xs)) (p : Pen H a n) (k : ∀ b o, b ≠ a → H b = some o → H' b = some o) : H' q = some (.tup xs) := k _ _ (p.ne h (fun c n z => by unfold PenO at z; cases z)) h
theorem dk_keep {q a : Addr} {n : Nat} {xs : List (Key × V)} (h : H q = some (.dK xs)) (p : Pen H a n) (k : ∀ b o, b ≠ a → H b = some o → H' b = some o) : H' q = some (.dK xs) := k _ _ (p.ne h (fun c n z => by unfold PenO at z; cases z)) h
end
theorem _root_.L2.SqL.exL {K : PySem.W.Frag} {H H' : Hp} {a : Addr} {xs : List V} (h : SqL K H a xs) (e : Ex H H') : SqL K H' a xs := by
  rcases h with (h | ⟨o, h⟩) | h
  · exact .inl (.inl (e _ _ h))
  · exact .inl (.inr ⟨o, e _ _ h⟩)
  · exact .inr h
theorem _root_.L2.SqT.exT {K : PySem.W.Frag} {H H' : Hp} {a : Addr} {xs : List V} (h : SqT K H a xs) (e : Ex H H') : SqT K H' a xs := by
  rcases h with (h | ⟨o, h⟩) | h
  · exact .inl (.inl (e _ _ h))
  · exact .inl (.inr ⟨o, e _ _ h⟩)
  · exact .inr h
theorem _root_.L2.Dp.ex' {K : PySem.W.Frag} {H H' : Hp} {v : V} {d : PyData} (h : Dp K H v d) (e : Ex H H') : Dp K H' v d := L3.Dp.exN e.n d v (fun a xs h => h.exL e) (fun a xs h => h.exT e) h
theorem s_repG {H : Hp} {Q : VK} {l : Addr} {xs : List V} {k : Int} (e : H l = some (.lst xs)) (h0 : 0 ≤ k) (h1 : k < 2 ^ 62) (hz : xs.length * k.toNat ≤ sizeLine) (h : ∀ p H2, H p = none → Ex H H2 → H2 p = some (.lst (List.replicate k.toNat xs).flatten) → Q (.ref p) H2) : rMulU (.ref l) (.int k) H Q :=
  .inr (.inr ⟨l, k, xs, rfl, rfl, e, by omega, by omega, hz, fun p hp => h p _ hp (ex_new hp) upd_same⟩)
theorem rep_one {α : Type} (n : Nat) (x : α) : (List.replicate n [x]).flatten = List.replicate n x := by
  induction n with
  | zero => rfl
  | succ n ih => rw [List.replicate_succ, List.flatten_cons, ih, List.replicate_succ]; rfl
theorem KX.join {X : Cx} {K : PySem.W.Frag} {o e : Expr} {to te : TE} {apos pos : Pos} (hK : X.K = K) (ho : PE X o to) (he : PE X e te) (hs : starEach [e] X.env = [(false, eval e X.env)] := by rfl) (hbase : attributeBase o "join" X.env (eval o X.env) = eval o X.env := by rfl) (hline : (apos.endLine == pos.line) = true := by rfl) :
    PE X (.Call (.Attribute o "join" apos) [e] [] pos) (tM1 (fun x xs H Q => ∃ a p, ∃ ys : List Str, x = .str a ∧ xs = [.ref p] ∧ (SqL K H p (ys.map V.str) ∨ SqT K H p (ys.map V.str)) ∧
      (ys.map (·.length)).sum + ys.length * a.length ≤ 16777216 ∧ Q (.str (Txt.join a ys)) H) to te) := by
  subst hK
  exact pe_join ho he hs hbase hline
end L3
end
section
namespace L3
open PySem PySem.NumText PySem.Spec PyProof.Rows L2 LamX RZ
def rLenOwn (C : Addr) (sp : Sp) (E : XK) : List V → Hp → VK → Prop := fun xs H Q => ∃ a dx fs, xs = [.ref a] ∧ H a = some (.ins C dx fs) ∧ sp [.ref a] H (fun z H' => ∃ n : Int, z = .int n ∧ 0 ≤ n ∧ n < 2 ^ 63 ∧ Q (.int n) H') E
theorem callLenOwn {X : Cx} {C : Addr} {k j : Nat} {sp : Sp} {E : XK} (B : Me X.prog X.w X.K X.mg X.base C "__len__" k ["self"] sp) (hr : Room (j + 1) X.A) (hx : Passes (L2.CX X.prog X.w) X E) (hk : k ≤ j := by decide) : CallR X (.builtin "len") (rLenOwn C sp E) := by
  obtain ⟨f, fd, h1, h2, G, b⟩ := B.ex
  intro pins s σ H xs us Q I r h
  obtain ⟨a, dx, fs, rfl, ea, q⟩ := h
  obtain ⟨u, rfl, rx⟩ := vals1 r
  cases (show u = Value.ref a from rx)
  obtain ⟨od, J⟩ := ins_inst I.hok ea
  obtain ⟨m, Fr⟩ := I.fr
  refine PySem.W.len_K Fr I.mod.kin J h1 h2 ?_
  refine wpAny_call (codeAny_mono (G.run X.A.in1 X.stack s H ⟨[.ref a], []⟩ [.ref a] [.ref a] (fun z H' => ∃ n : Int, z = .int n ∧ 0 ≤ n ∧ n < 2 ^ 63 ∧ Q (.int n) H') E (hr.in1.mono hk) I.env0.in1 (by have := b s [.ref a] I.kIn rfl; rw [List.append_nil] at this; exact this) (.cons (show RelV (.ref a) (.ref a) from rfl) .nil) q) fun r s' z => ?_)
  match r, z with
  | .error e, z => exact hx pins σ H s e s' I z
  | .ok (.ret u), z =>
    obtain ⟨v', H', I', r', n, rfl, h0, h1, q'⟩ := I.after z
    obtain ⟨t, rfl⟩ := (show ∃ t, u = Value.int n t from r')
    exact ⟨⟨h0, h1⟩, .int n, H', I'.tok _, ⟨_, rfl⟩, q'⟩
theorem s_mt {C : Addr} {m : Str} {sp : Sp} {dvs : List V} {E : XK} {ta : TE} {t : TA} {σ : L2.St} {H : Hp} {Q : VK} (h : ta σ H fun x H1 => ∃ a dx fs, x = .ref a ∧ H1 a = some (.ins C dx fs) ∧ fs.lookup m = none ∧ t σ H1 fun vs H2 => sp (x :: (vs ++ dvs)) H2 Q E) : tMeth C m sp dvs E ta t σ H Q := h
end L3
end
section
namespace L2
open PySem PySem.Spec PyProof.Rows HT
end L2
namespace HT
open PySem PySem.Spec PyProof.Rows L2
end HT
namespace L3
open PySem PySem.NumText PySem.Spec PyProof.Rows L2 LamX RZ
section
variable {X : Cx}
def tRevT (K : PySem.W.Frag) (te : TE) : TE := fun σ H Q => te σ H fun x H1 => ∃ a xs, x = .ref a ∧ SqT K H1 a xs ∧ ∀ p, H1 p = none → Q (.ref p) (upd H1 p (.tup xs.reverse))
end
section
variable {K : PySem.W.Frag} {te : TE} {σ : L2.St} {H : Hp} {Q : VK}
theorem s_revT (h : te σ H fun x H1 => ∃ a xs, x = .ref a ∧ SqT K H1 a xs ∧ ∀ p, H1 p = none → Q (.ref p) (upd H1 p (.tup xs.reverse))) : tRevT K te σ H Q := h
theorem s_revL (h : te σ H fun x H1 => ∃ a xs, x = .ref a ∧ SqL K H1 a xs ∧ ∀ p, H1 p = none → Q (.ref p) (upd H1 p (.lst xs.reverse))) : L2.tRevL K te σ H Q := h
end
end L3
end
section
namespace L3
open PySem PySem.NumText PySem.Spec PyProof.Rows L2 LamX RZ
def CkTo (C CM : Addr) (H : Hp) (ns : List Int) (Q : VK) (E : XK) : Prop := (ns.length ≤ 5000 ∧ ∀ r H', Ex H H' → Ck C H' r ns → Q (.ref r) H') ∨ (5000 < ns.length ∧ Rz2 CM "what" "most" (.str "chunks") (.int 5000) H E)
theorem CkTo.g {K : PySem.W.Frag} {C CB CM : Addr} {H : Hp} {ns : List Int} {Q : VK} {E : XK} (h : CkTo C CM H ns Q E) (hl : ns.length ≤ 100000) (hs : ∀ n ∈ ns, siz n) : CkG K CB CM H (ns.map V.int) (fun ns => ∀ q H', H q = none → Ex H H' → Ck C H' q ns → Q (.ref q) H') E :=
  ⟨by rw [List.length_map]; exact hl, .inl ⟨ns, rfl, hs, h.imp (fun ⟨a, b⟩ => ⟨a, fun q H' _ e c => b q H' e c⟩) id⟩⟩
end L3
end
section
namespace L3
open PySem PySem.NumText PySem.Spec PyProof.Rows L2 LamX RZ
def ErP (g : Str) (tag : Str) (c : Addr) (cls : Value) (d : Option Addr) (H' : Hp) (Q : VK) : Prop := ∃ dd v, cls = .ref c ∧ d = some dd ∧ H' dd = some (.xd [(g, v)]) ∧ ∀ p H2, H' p = none → Ex H' H2 → H2 p = some (.tup [.str tag, v]) → Q (.ref p) H2
def ErM (c : Addr) (cls : Value) (d : Option Addr) (H' : Hp) (Q : VK) : Prop := ∃ dd v1 v2, cls = .ref c ∧ d = some dd ∧ H' dd = some (.xd [("most", v2), ("what", v1)]) ∧ ∀ p H2, H' p = none → Ex H' H2 → H2 p = some (.tup [.str "many", v1, v2]) → Q (.ref p) H2
/-- the five errors are none of each other -/
structure Kit5 (K : PySem.W.Frag) (CB CC CM CT CN : Addr) : Prop where
  CC_CB : PySem.W.kitOne K (.ref CC) (.ref CB) = some false
  CC_CT : PySem.W.kitOne K (.ref CC) (.ref CT) = some false
  CC_CN : PySem.W.kitOne K (.ref CC) (.ref CN) = some false
  CC_CM : PySem.W.kitOne K (.ref CC) (.ref CM) = some false
  CB_CC : PySem.W.kitOne K (.ref CB) (.ref CC) = some false
  CB_CT : PySem.W.kitOne K (.ref CB) (.ref CT) = some false
  CB_CN : PySem.W.kitOne K (.ref CB) (.ref CN) = some false
  CB_CM : PySem.W.kitOne K (.ref CB) (.ref CM) = some false
  CT_CC : PySem.W.kitOne K (.ref CT) (.ref CC) = some false
  CT_CB : PySem.W.kitOne K (.ref CT) (.ref CB) = some false
  CT_CN : PySem.W.kitOne K (.ref CT) (.ref CN) = some false
  CT_CM : PySem.W.kitOne K (.ref CT) (.ref CM) = some false
  CN_CC : PySem.W.kitOne K (.ref CN) (.ref CC) = some false
  CN_CB : PySem.W.kitOne K (.ref CN) (.ref CB) = some false
  CN_CT : PySem.W.kitOne K (.ref CN) (.ref CT) = some false
  CN_CM : PySem.W.kitOne K (.ref CN) (.ref CM) = some false
  CM_CC : PySem.W.kitOne K (.ref CM) (.ref CC) = some false
  CM_CB : PySem.W.kitOne K (.ref CM) (.ref CB) = some false
  CM_CT : PySem.W.kitOne K (.ref CM) (.ref CT) = some false
  CM_CN : PySem.W.kitOne K (.ref CM) (.ref CN) = some false
theorem s_reprG {K : PySem.W.Frag} {H : Hp} {Q : VK} {v : V} {x : PyData} (hd : Dp K H v x) (h1 : x.showable = true) (h2 : x.depth ≤ 60) (h3 : x.shown.length ≤ sizeLine) (h : Q (.str x.shown) H) : rRepr K [v] H Q := ⟨v, x, rfl, hd, h1, h2, h3, h⟩
end L3
end
section
namespace L3
open PySem PySem.NumText PySem.Spec PyProof.Rows L2 LamX RZ
def tupD (ns : List Int) : PyData := .tuple (ns.map PyData.int)
theorem canAll {l : List PyData} (h : ∀ d ∈ l, d.canLay0 = true) : PyData.canLayAll0 l = true := by
  induction l with
  | nil => rfl
  | cons x r ih =>
    unfold PyData.canLayAll0
    rw [h x List.mem_cons_self, ih fun d hd => h d (List.mem_cons_of_mem _ hd)]
    rfl
theorem depAll {l : List PyData} {k : Nat} (h : ∀ d ∈ l, d.depth ≤ k) : PyData.depthAll l ≤ k := by
  induction l with
  | nil => exact Nat.zero_le _
  | cons x r ih =>
    unfold PyData.depthAll
    have h1 := h x List.mem_cons_self
    have h2 := ih fun d hd => h d (List.mem_cons_of_mem _ hd)
    first | omega | exact Nat.max_le.mpr ⟨h1, h2⟩
theorem depInts (ns : List Int) : PyData.depthAll (ns.map PyData.int) = 0 := by
  induction ns with
  | nil => rfl
  | cons x r ih => rw [List.map_cons]; unfold PyData.depthAll; rw [ih]; rfl
theorem depTup (ns : List Int) : (tupD ns).depth ≤ 1 := by
  unfold tupD PyData.depth
  rw [depInts]
  decide
theorem dpTup {K : PySem.W.Frag} {H : Hp} {t : Addr} {ns : List Int} (h : H t = some (.tup (ns.map V.int))) : Dp K H (.ref t) (tupD ns) := .tup (.inl (.inl h)) (dpInts ns)
end L3
end
section
namespace L3
open PySem PySem.NumText PySem.Spec PyProof.Rows L2 LamX RZ
theorem s_listT {K : PySem.W.Frag} {H : Hp} {Q : VK} {p : Addr} {xs : List V} (hs : H p = some (.tup xs)) (h : ∀ q H2, H q = none → Ex H H2 → H2 q = some (.lst xs) → Q (.ref q) H2) : rListU K [.ref p] H Q :=
  .inl ⟨p, xs, rfl, .inr (.inl (.inl hs)), fun l hl => h l _ hl (ex_new hl) upd_same⟩
theorem atI_nat {α : Type} {xs : List α} {j : Nat} {v : α} (h : xs[j]? = some v) : atI xs (j : Int) = some v := by
  rw [atI_int (by omega) (by have := (List.getElem?_eq_some_iff.mp h).1; omega), Int.toNat_natCast]
  exact h
end L3
end
section
namespace L3
open PySem PySem.NumText PySem.Spec PyProof.Rows L2 LamX RZ
def Hds (H : Hp) : List Addr → List (List V) → Prop
  | [], [] => True
  | q :: qs, t :: ts => H q = some (.tup t) ∧ Hds H qs ts
  | _, _ => False
theorem Hds.imp {H H' : Hp} : ∀ {qs : List Addr} {ts : List (List V)}, Hds H qs ts → (∀ q t, H q = some (.tup t) → H' q = some (.tup t)) → Hds H' qs ts
  | [], [], _, _ => trivial
  | _ :: _, _ :: _, ⟨a, b⟩, k => ⟨k _ _ a, Hds.imp b k⟩
  | [], _ :: _, h, _ => h.elim
  | _ :: _, [], h, _ => h.elim
theorem Hds.app {H : Hp} {q : Addr} {t : List V} (hq : H q = some (.tup t)) : ∀ {qs : List Addr} {ts : List (List V)}, Hds H qs ts → Hds H (qs ++ [q]) (ts ++ [t])
  | [], [], _ => ⟨hq, trivial⟩
  | _ :: _, _ :: _, ⟨a, b⟩ => ⟨a, Hds.app hq b⟩
  | [], _ :: _, h => h.elim
  | _ :: _, [], h => h.elim
theorem Hds.len {H : Hp} : ∀ {qs : List Addr} {ts : List (List V)}, Hds H qs ts → qs.length = ts.length
  | [], [], _ => rfl
  | _ :: _, _ :: _, ⟨_, b⟩ => by rw [List.length_cons, List.length_cons, Hds.len b]
  | [], _ :: _, h => h.elim
  | _ :: _, [], h => h.elim
theorem Hds.dp {K : PySem.W.Frag} {H : Hp} {f : List V → List PyData} : ∀ {qs : List Addr} {ts : List (List V)}, Hds H qs ts → (∀ t ∈ ts, DpAll K H t (f t)) → DpAll K H (qs.map V.ref) (ts.map fun t => .tuple (f t))
  | [], [], _, _ => .nil
  | _ :: _, t :: _, ⟨a, b⟩, h => .cons (.tup (.inl (.inl a)) (h t List.mem_cons_self)) (Hds.dp b fun u hu => h u (List.mem_cons_of_mem _ hu))
  | [], _ :: _, h, _ => h.elim
  | _ :: _, [], h, _ => h.elim
def HdAt (H : Hp) (hl : Addr) (ts : List (List V)) : Prop := ∃ qs : List Addr, H hl = some (.lst (qs.map V.ref)) ∧ Hds H qs ts
theorem HdAt.ex {H H' : Hp} {hl : Addr} {ts : List (List V)} (h : HdAt H hl ts) (e : Ex H H') : HdAt H' hl ts := by
  obtain ⟨qs, a, b⟩ := h
  exact ⟨qs, e _ _ a, b.imp fun q t h => e _ _ h⟩
theorem HdAt.exN {H H' : Hp} {hl : Addr} {ts : List (List V)} (h : HdAt H hl ts) (e : ExtN H H') : HdAt H' hl ts := by
  obtain ⟨qs, a, b⟩ := h
  exact ⟨qs, e _ _ a (fun _ z => nomatch z), b.imp fun q t h => e _ _ h (fun _ z => nomatch z)⟩
theorem HdAt.one {H : Hp} {hl q : Addr} {t : List V} (a : H hl = some (.lst [.ref q])) (b : H q = some (.tup t)) : HdAt H hl [t] := ⟨[q], a, b, trivial⟩
/-- one more is heard and put behind -/
theorem HdAt.put {H : Hp} {hl q : Addr} {ts : List (List V)} {t : List V} {Q : VK} (h : HdAt H hl ts) (hn : ts.length < 900) (hq : H q = some (.tup t)) (k : ∀ H', (∀ b o, b ≠ hl → H b = some o → H' b = some o) → (∀ p n T, Wo T H p n → Wo T H' p n) → HdAt H' hl (ts ++ [t]) → Q .non H') : rAppend (.ref hl) [.ref q] H Q := by
  obtain ⟨qs, a, b⟩ := h
  have hl' := b.len
  refine s_app a (small1000 (by rw [List.length_map]; omega)) (k _ (fun c o hc e => by rw [upd_ne hc]; exact e) (fun p n T w => w.up a) ⟨qs ++ [q], by rw [upd_same, List.map_append]; rfl, ?_⟩)
  refine (b.app hq).imp fun c u hc => ?_
  rw [upd_ne (fun z => by rw [z, a] at hc; cases hc)]
  exact hc
theorem HdAt.sq {H : Hp} {hl : Addr} {ts : List (List V)} (h : HdAt H hl ts) {K : PySem.W.Frag} {R : Prop} (r : R) : tyV K "list" (.ref hl) H ∧ R := by
  obtain ⟨qs, a, _⟩ := h
  exact s_tyL a r
theorem HdAt.dp {K : PySem.W.Frag} {H : Hp} {hl : Addr} {ts : List (List V)} {f : List V → List PyData} (h : HdAt H hl ts) (k : ∀ t ∈ ts, DpAll K H t (f t)) : Dp K H (.ref hl) (.list (ts.map fun t => .tuple (f t))) := by
  obtain ⟨qs, a, b⟩ := h
  exact .lst (.inl (.inl a)) (b.dp k)
/-- all but one list stays -/
theorem Ck.upd1 {C : Addr} {H H' : Hp} {q hl : Addr} {ns : List Int} {xs : List V} (h : Ck C H q ns) (a : H hl = some (.lst xs)) (k : ∀ b o, b ≠ hl → H b = some o → H' b = some o) : Ck C H' q ns := by
  obtain ⟨dx, t1, t2, t3, h1, h2, h3, h4⟩ := h
  have nn : ∀ {q : Addr} {o : HO}, H q = some o → (∀ xs, o ≠ .lst xs) → H' q = some o := fun {q o} e z => k _ _ (fun y => by rw [y, a] at e; exact z _ (Option.some.inj e).symm) e
  exact ⟨dx, t1, t2, t3, nn h1 (fun _ z => nomatch z), nn h2 (fun _ z => nomatch z), nn h3 (fun _ z => nomatch z), nn h4 (fun _ z => nomatch z)⟩
end L3
end
section
namespace L3
open PySem PySem.NumText PySem.Spec PyProof.Rows L2 LamX RZ ClX
def tStR (C : Addr) (sp : Sp) (E : XK) (ta : TE) (t : TA) : TE := fun σ H Q => ta σ H fun x H1 => x = .ref C ∧ t σ H1 fun vs H2 => sp vs.reverse H2 Q E
section
variable {K : PySem.W.Frag} {σ : L2.St} {H : Hp} {Q : VK} {C CB CC CM CT CN : Addr}
theorem s_stR {sp : Sp} {E : XK} {t : TA} (h : t σ H fun vs H2 => sp vs.reverse H2 Q E) : tStR C sp E (tC (.ref C)) t σ H Q := ⟨rfl, h⟩
/-- a value that is refused, heard with its text -/
structure ShV (H : Hp) (K : PySem.W.Frag) (v : V) (x : PyData) : Prop where
  dp : Dp K H v x
  sh : x.showable = true
  dep : x.depth ≤ 60
  len : x.shown.length ≤ sizeLine
  ok : PyData.strOk x.shown = true
theorem sqL_exN {H H' : Hp} {a : Addr} {xs : List V} (h : SqL K H a xs) (e : ExtN H H') : SqL K H' a xs := by
  rcases h with (h | ⟨o, h⟩) | h
  · exact .inl (.inl (e _ _ h fun _ z => nomatch z))
  · exact .inl (.inr ⟨o, e _ _ h fun _ z => nomatch z⟩)
  · exact .inr h
theorem sqT_exN {H H' : Hp} {a : Addr} {xs : List V} (h : SqT K H a xs) (e : ExtN H H') : SqT K H' a xs := by
  rcases h with (h | ⟨o, h⟩) | h
  · exact .inl (.inl (e _ _ h fun _ z => nomatch z))
  · exact .inl (.inr ⟨o, e _ _ h fun _ z => nomatch z⟩)
  · exact .inr h
theorem ShV.up {H H' : Hp} {v : V} {x : PyData} (h : ShV H K v x) (e : ExtN H H') : Dp K H' v x := Dp.exN e x v (fun _ _ z => sqL_exN z e) (fun _ _ z => sqT_exN z e) h.dp
theorem ShV.exN {H H' : Hp} {v : V} {x : PyData} (h : ShV H K v x) (e : ExtN H H') : ShV H' K v x := ⟨h.up e, h.sh, h.dep, h.len, h.ok⟩
theorem ShV.int {H : Hp} {i : Int} (h : i.natAbs ≤ 10 ^ 40) : ShV H K (.int i) (.int i) :=
  have h2 : i.natAbs.log2 < 1920 := log_le h (by decide +kernel)
  ⟨.int i, decide_eq_true h2, Nat.zero_le _, Nat.le_trans (fit_shown (x := .int i) (decide_eq_true h2)) (by decide +kernel), strOkI i⟩
end
theorem sum_rep (n : Nat) (x : Int) : (List.replicate n x).sum = (n : Int) * x := by
  induction n with
  | zero => simp
  | succ n ih => rw [List.replicate_succ, List.sum_cons, ih, show ((n + 1 : Nat) : Int) = (n : Int) + 1 by omega, Int.add_mul]; omega
section
variable {K : PySem.W.Frag} {σ : L2.St} {H : Hp} {Q : VK}
/-- [f(i) for i in range(N)] -/
theorem lcR2 {te : TE} {N j : Nat} {vs : List Nat} (f : Nat → V) (hN : N < sizeLine) (hw : ∀ x, wipe ((wipe σ vs).set j (some x)) vs = wipe σ vs)
    (he : ∀ (i : Nat) (H1 : Hp) (R : VK), i < N → Ex H H1 → (∀ H2, Ex H1 H2 → R (f i) H2) → te ((wipe σ vs).set j (some (.int (0 + (i : Int))))) H1 R)
    (k : ∀ D H2, H D = none → Ex H H2 → H2 D = some (.lst ((List.range N).map f)) → Q (.ref D) H2) : LC (Itr 0 N) (gName j) tYes te vs σ H Q := by
  intro D hD
  refine lc_range (fun i H1 => Ex H H1 ∧ H1 D = some (.lst ((List.range i).map f))) ⟨ex_new hD, upd_same⟩ (fun i H1 hi ⟨e, h1⟩ => ?_) fun H1 ⟨e, h1⟩ => k D H1 hD e h1
  refine ⟨hw _, ?_⟩
  unfold tYes
  dsimp only
  refine iteT (he i H1 _ hi e fun H2 e2 => ?_)
  have h2 := e2 _ _ h1
  refine ⟨_, h2, ?_, fun b o hb => ?_, ?_⟩
  · rw [List.length_map, List.length_range]; omega
  · rw [upd_ne (ne_of_none hb hD)]; exact e2 _ _ (e _ _ hb)
  · rw [upd_same, List.range_succ, List.map_append]; rfl
end
theorem shPairs {l : List PyData} (h : ∀ d ∈ l, ∃ a b, d = .tuple [.str a, .str b] ∧ PyData.strOk a = true ∧ PyData.strOk b = true) : SeqAt.shaped (.list l) = true := by
  have h1 : PyData.canLayAll0 l = true := canAll fun d hd => by
    obtain ⟨a, b, rfl, ha, hb⟩ := h d hd
    exact SeqAt.canLay_of_shaped (sh2 ha hb)
  have h2 : PyData.depthAll l ≤ 1 := depAll fun d hd => by
    obtain ⟨a, b, rfl, ha, hb⟩ := h d hd
    exact Nat.le_refl 1
  unfold SeqAt.shaped PyData.canLay0 PyData.depth
  rw [h1]
  simp only [Bool.true_and]
  exact decide_eq_true (by omega)
end L3
end
section
namespace L3
open PySem PySem.Spec PyProof.Rows L2 LamX ItX
def ItT (t it : Addr) : HO := .ext fun h => h.IsTupleIter it t 0
theorem itT_ok {P : Program} {w : World} {H : Hp} {h : Heap} {t it : Addr} (e : h.IsTupleIter it t 0) : ObjOk P w H h it (ItT t it) := ⟨e, ⟨_, e.choose_spec.1⟩, fun h1 h2 ⟨o, q, r⟩ k => ⟨o, k _ q, r⟩⟩
def rIterT (K : PySem.W.Frag) (n : Nat) : List V → Hp → VK → Prop := fun xs H Q => ∃ (t : Addr) (zs : List V), xs = [.ref t] ∧ SqT K H t zs ∧ ∀ it, H it = none → n ≤ it → Q (.ref it) (upd H it (ItT t it))
theorem pyiter_call {prog : Program} {w : World} {A : Around} {E : Value → Shared → Prop} {s : Shared} {l : Addr} {Q : Value → Shared → Prop} (h : wpAny (model prog w) A.in1 (pyIter (.ref l)) (fun v s' => Q v s') E s) : wpAny (model prog w) A (call (.builtin "iter") [.ref l]) Q E s := by
  refine Calls.call_function_entry (by decide +kernel) (by decide +kernel) PySem.W.kdk_entry_iter (PySem.W.kdk_args_iter _) ?_
  unfold Builtin.«iter»
  refine wpAny_bind (m := someArgs "iter" 1 2 _) (wpAny_of_eq (a := [Value.ref l]) (by first | rfl | kernel_rfl!) ?_)
  show wpAny _ _ (pyIter (.ref l) >>= _) _ _ _
  exact wpAny_bind (wpAny_mono h (fun v s' q => wpAny_pure ⟨_, rfl, q⟩) fun _ _ z => z)
theorem callIterT {X : Cx} {K : PySem.W.Frag} (hK : X.K = K) : CallR X (.builtin "iter") (rIterT K X.s_0.heap.objs.size) := by
  subst hK
  intro pins s σ H xs us Q I r h
  obtain ⟨t, zs, rfl, hq, q⟩ := h
  obtain ⟨u, rfl, ru⟩ := vals1 r
  cases ru
  obtain ⟨its, rv, pl, hz⟩ := I.tuple hq
  refine pyiter_call (wpAny_pyIter_tuple (show s.heap.IsTuple t its.toArray from pl) ?_)
  exact ⟨.ref s.heap.objs.size, _, I.laid (t' := s.toks) (fun b u e => Heap.get?_push_of_some _ e) (Nat.le_refl _) (itT_ok ⟨_, Heap.get?_push_size _ rfl, rfl, rfl⟩), rfl, q _ (I.hok.fresh (Nat.le_refl _)) I.sz⟩
/-- a def whose promise knows how great the heap is at its entry -/
structure FnN (P : Program) (w : World) (K : PySem.W.Frag) (mg : Str → Option Value) (base : Heap) (CX : CXT) (k : Nat) (f : Addr) (fd : FuncData) (ps : List Str) (sp : Nat → Sp) : Prop where
  run : ∀ (A : Around) (fr : List Env) (s : Shared) (H : Hp) (as : Args) (us : List Value) (vs : List V) (Q : VK) (E : XK), Room k A → Env0 P w K mg base A fr s H →
    BindsTo s fd as (ps.zip us) → Vals vs us → sp s.heap.objs.size vs H Q E → codeAny (model P w) A (.call (.ref f) as) (CR CX fr P w H s Q E) s
theorem funN {P : Program} {w : World} {K : PySem.W.Frag} {mg : Str → Option Value} {base : Heap} {CX : CXT} {x qual : Str} {f : Addr} {fd : FuncData} {N ps : List Str} {k : Nat} {sp : Nat → Sp} {st : Stmt} (F : L2.Fun K x qual st f fd) (S : FnScope N ps (defScope st)) (len : ∀ n vs H Q E, sp n vs H Q E → vs.length = ps.length)
    (body : ∀ (cd : Value) (A : Around) (fr : List Env) (s : Shared) (H : Hp) (vs : List V) (Q : VK) (E : XK), Room k (A.deeper (envOfC qual (defScope st) s.heap.objs.size f cd)) → sp s.heap.objs.size vs H Q E →
      ∃ t, PSs (cxOf CX P w K mg base N qual (defScope st) f cd A fr s H E) (defBody st) t ∧ t { nx := fun _ H' => Q .non H', rt := Q } (L2.start N vs) H) :
    FnN P w K mg base CX (k + 1) f fd ps sp := by
  obtain ⟨oc, od, kV, doc, pm, an, cd, ct, sl, rfl, lk, hcd⟩ := F.ex
  exact ⟨fun A fr s H as us vs Q E hr e0 hb r h => LamX.run_ofS lk hcd S hr e0 hb r (len _ _ _ _ _ h) fun hr' => body cd A fr s H vs Q E hr' h⟩
structure OwnIt (P : Program) (w : World) (K : PySem.W.Frag) (mg : Str → Option Value) (base : Heap) (C : Addr) (k : Nat) (sp : Nat → Sp) : Prop where
  ex : ∃ (f : Addr) (fd : FuncData), PySem.W.findIn K (.ref C) "__iter__" = some (some (.ref f)) ∧ PySem.W.isFn K (.ref f) = true ∧ FnN P w K mg base (L2.CX P w) k f fd ["self"] sp ∧ L2.Binds K fd ["self"] []
def iOwn (K : PySem.W.Frag) (C : Addr) (sp : Nat → Sp) (E : XK) (te : TE) : TI := fun σ H R => te σ H fun x H1 => ∃ a dx fs, x = .ref a ∧ H1 a = some (.ins C dx fs) ∧
  ∀ n, sp n [.ref a] H1 (fun v H2 => ∃ it t, v = .ref it ∧ H2 it = some (ItT t it) ∧ n ≤ it ∧ R (Itt K t) (dropH H2 it)) E
section
variable {X : Cx} {K : PySem.W.Frag} {C : Addr} {k j : Nat} {E : XK}
theorem pi_own {sp : Nat → Sp} {tg e : Expr} {te : TE} (hK : X.K = K) (B : OwnIt X.prog X.w X.K X.mg X.base C k sp) (hr : Room j X.A) (hx : Passes (L2.CX X.prog X.w) X E) (he : PE X e te) (hk : k ≤ j := by decide) : PI X tg e (iOwn K C sp E te) := by
  subst hK
  obtain ⟨f, fd, h1, h2, G, b⟩ := B.ex
  refine ⟨fun pins s σ H R I h => thn (he.run pins s σ H _ I h) fun v s1 ⟨x, H1, I1, r1, a, dx, fs, ex, ea, q⟩ => ?_⟩
  subst ex
  cases (show v = Value.ref a from r1)
  obtain ⟨od, J⟩ := ins_inst I1.hok ea
  obtain ⟨m, Fr⟩ := I1.fr
  refine PySem.W.owit_iter Fr I1.mod.kin J h1 h2 ?_
  refine wpAny_call (codeAny_mono (G.run X.A X.stack s1 H1 ⟨[.ref a], []⟩ [.ref a] [.ref a] _ E (hr.mono hk) I1.env0 (by have := b s1 [.ref a] I1.kIn rfl; rw [List.append_nil] at this; exact this) (.cons (show RelV (.ref a) (.ref a) from rfl) .nil) (q s1.heap.objs.size)) fun r s' z => ?_)
  match r, z with
  | .error e, z => exact hx pins σ H1 s1 e s' I1 z
  | .ok (.ret u), z =>
    obtain ⟨v', H', I', r', it, t, rfl, hit, hn, hR⟩ := I1.after z
    cases (show u = Value.ref it from r')
    have st : s'.heap.IsTupleIter it t 0 := (show ObjOk X.prog X.w H' s'.heap it (ItT t it) from I'.hok it _ hit).1
    have hit' := hit
    unfold ItT at hit'
    show PySem.W.OwitIt _ _ _ _ _ _
    unfold PySem.W.OwitIt
    refine wpAny_specialOf (name := Str.ofString "__next__") st.typeIs F.slot_tuple_iterator_next.lookup ?_
    refine ⟨it, [it], _, _, dropH H' it, rfl, inv_drop I' hit', turn_tuple t it, st, fun b hb => ?_, hR⟩
    have e : b = it := by simpa using hb
    rw [e]
    exact inv_fp I' hit (Nat.le_trans I1.sz hn)
def rInOwn (C : Addr) (sp : Sp) (E : XK) (ng : Bool) : R2 := fun x y H Q => ∃ a dx fs, y = .ref a ∧ H a = some (.ins C dx fs) ∧ sp [y, x] H (fun z H' => ∃ c, z = .bl c ∧ Q (.bl (c ^^ ng)) H') E
theorem opInOwn {sp : Sp} {ps : List Str} (B : Me X.prog X.w X.K X.mg X.base C "__contains__" k ["self", "value"] sp) (hr : Room j X.A) (hx : Passes (L2.CX X.prog X.w) X E) (hk : k ≤ j := by decide) : OpR X (compareOp .In) (rInOwn C sp E false) := by
  obtain ⟨f, fd, h1, h2, G, b⟩ := B.ex
  intro pins s σ H x y v u Q I rx ry h
  obtain ⟨a, dx, fs, rfl, ea, q⟩ := h
  obtain rfl : u = Value.ref a := ry
  obtain ⟨od, J⟩ := ins_inst I.hok ea
  obtain ⟨m, Fr⟩ := I.fr
  refine PySem.W.in_K Fr I.mod.kin J h1 h2 ?_
  refine wpAny_call (codeAny_mono (G.run X.A X.stack s H ⟨[.ref a, v], []⟩ [.ref a, v] [.ref a, x] (fun z H' => ∃ c, z = .bl c ∧ Q (.bl (c ^^ false)) H') E (hr.mono hk) I.env0 (by have := b s [.ref a, v] I.kIn rfl; rw [List.append_nil] at this; exact this) (.cons (show RelV (.ref a) (.ref a) from rfl) (.cons rx .nil)) q) fun r s' z => ?_)
  match r, z with
  | .error e, z => exact hx pins σ H s e s' I z
  | .ok (.ret u), z =>
    obtain ⟨v', H', I', r', c, rfl, q'⟩ := I.after z
    cases (show u = Value.bool c from r')
    refine wpAny_of_eq (a := c) (by first | rfl | (unfold truthy; rfl)) ?_
    rw [Bool.xor_false] at q'
    exact ⟨.bl c, H', I', rfl, q'⟩
theorem opNotInOwn {sp : Sp} {ps : List Str} (B : Me X.prog X.w X.K X.mg X.base C "__contains__" k ["self", "value"] sp) (hr : Room j X.A) (hx : Passes (L2.CX X.prog X.w) X E) (hk : k ≤ j := by decide) : OpR X (compareOp .NotIn) (rInOwn C sp E true) := by
  obtain ⟨f, fd, h1, h2, G, b⟩ := B.ex
  intro pins s σ H x y v u Q I rx ry h
  obtain ⟨a, dx, fs, rfl, ea, q⟩ := h
  obtain rfl : u = Value.ref a := ry
  obtain ⟨od, J⟩ := ins_inst I.hok ea
  obtain ⟨m, Fr⟩ := I.fr
  refine PySem.W.notIn_K Fr I.mod.kin J h1 h2 ?_
  refine wpAny_call (codeAny_mono (G.run X.A X.stack s H ⟨[.ref a, v], []⟩ [.ref a, v] [.ref a, x] (fun z H' => ∃ c, z = .bl c ∧ Q (.bl (c ^^ true)) H') E (hr.mono hk) I.env0 (by have := b s [.ref a, v] I.kIn rfl; rw [List.append_nil] at this; exact this) (.cons (show RelV (.ref a) (.ref a) from rfl) (.cons rx .nil)) q) fun r s' z => ?_)
  match r, z with
  | .error e, z => exact hx pins σ H s e s' I z
  | .ok (.ret u), z =>
    obtain ⟨v', H', I', r', c, rfl, q'⟩ := I.after z
    cases (show u = Value.bool c from r')
    refine wpAny_of_eq (a := c) (by first | rfl | (unfold truthy; rfl)) ?_
    rw [Bool.xor_true] at q'
    exact ⟨.bl (!c), H', I', rfl, q'⟩
def rIxOwn (C : Addr) (sp : Sp) (E : XK) : R2 := fun x y H Q => ∃ a dx fs, x = .ref a ∧ H a = some (.ins C dx fs) ∧ sp [x, y] H Q E
structure GetM (P : Program) (w : World) (K : PySem.W.Frag) (mg : Str → Option Value) (base : Heap) (C : Addr) (k : Nat) (ps : List Str) (sp : Sp) : Prop where
  ex : ∃ (f : Addr) (fd : FuncData), PySem.W.findIn K (.ref C) "__getitem__" = some (some (.ref f)) ∧ PySem.W.isFn K (.ref f) = true ∧ PySem.W.fnIn K f = true ∧ PySem.W.noSeq K C = true ∧ ps.length = 2 ∧ FnOk P w K mg base (L2.CX P w) k f fd ps sp ∧ L2.Binds K fd ps []
theorem pe_ixOwn {sp : Sp} {ps : List Str} {o b : Expr} {ta tb : TE} {pos : Pos} (B : GetM X.prog X.w X.K X.mg X.base C k ps sp) (hr : Room (j + 1) X.A) (hx : Passes (L2.CX X.prog X.w) X E) (ha : PE X o ta) (hb : PE X b tb) (hk : k ≤ j := by decide)
    (hs : ∀ o i, subscripted b true o i = runValue (.builtin "lifetime.subscript" ⟨[o, i], []⟩) := by intros; rfl) : PE X (.Subscript o b pos) (tOp (rIxOwn C sp E) ta tb) := by
  obtain ⟨f, fd, h1, h2, h3, _, hl, G, bb⟩ := B.ex
  refine ⟨fun pins s σ H Q I h => ?_⟩
  refine Subscript_ (binT ha hb I h fun v u s2 x y H2 I2 rx ry q => ?_)
  obtain ⟨a, dx, fs, rfl, ea, q⟩ := q
  obtain rfl : v = Value.ref a := rx
  obtain ⟨od, J⟩ := ins_inst I2.hok ea
  obtain ⟨m, Fr⟩ := I2.fr
  refine PySem.W.sub_K Fr I2.mod.kin J h1 h3 h2 ?_ (hs _ _)
  refine wpAny_call (codeAny_mono (G.run X.A.in1 X.stack s2 H2 ⟨[.ref a, u], []⟩ [.ref a, u] [.ref a, y] Q E (hr.in1.mono hk) I2.env0.in1 (by have := bb s2 [.ref a, u] I2.kIn hl.symm; rw [List.append_nil] at this; exact this) (.cons (show RelV (.ref a) (.ref a) from rfl) (.cons ry .nil)) q) fun r s' z => ?_)
  match r, z with
  | .error e, z => exact hx pins σ H2 s2 e s' I2 z
  | .ok (.ret u), z => exact I2.after z
end
def SlO (sl : Addr) (lo hi st : Option Int) : HO := .ext fun h => ∃ vl vu vs, h.IsSliceOf sl vl vu vs ∧ IsPart vl lo ∧ IsPart vu hi ∧ IsPart vs st
theorem slO_ok {P : Program} {w : World} {H : Hp} {h : Heap} {sl : Addr} {lo hi st : Option Int} {vl vu vs : Value} (e : h.IsSliceOf sl vl vu vs) (a : IsPart vl lo) (b : IsPart vu hi) (c : IsPart vs st) : ObjOk P w H h sl (SlO sl lo hi st) :=
  ⟨⟨vl, vu, vs, e, a, b, c⟩, ⟨_, e.choose_spec.1⟩, fun h1 h2 ⟨vl, vu, vs, ⟨o, q, r⟩, z⟩ k => ⟨vl, vu, vs, ⟨o, k _ q, r⟩, z⟩⟩
def cut3 {α : Type} (xs : List α) (lo hi st : Option Int) : List α :=
  (sliceRange (sliceBounds lo hi st xs.length).1 (sliceBounds lo hi st xs.length).2.1 (sliceBounds lo hi st xs.length).2.2).filterMap (xs[·]?)
theorem cut3_pick (xs : List Value) (lo hi st : Option Int) : slicePick xs.toArray lo hi st = (cut3 xs lo hi st).toArray := by
  unfold slicePick cut3
  rw [List.size_toArray]
  congr 1
  congr 1
  funext i
  rw [List.getElem?_toArray]
theorem cut3_len {α : Type} (xs : List α) (lo hi st : Option Int) : (cut3 xs lo hi st).length ≤ xs.length := by
  have h := slicePick_size_le (xs.map fun _ => Value.none).toArray lo hi st
  rw [cut3_pick, List.size_toArray, List.size_toArray, List.length_map] at h
  refine Nat.le_trans (Nat.le_of_eq ?_) h
  unfold cut3
  rw [List.length_map]
  generalize sliceRange _ _ _ = l
  induction l with
  | nil => rfl
  | cons i r ih =>
    rw [List.filterMap_cons, List.filterMap_cons, List.getElem?_map]
    cases xs[i]? with
    | none => exact ih
    | some x => show _ + 1 = _ + 1; rw [ih]
theorem cut3_mem {α : Type} {xs : List α} {lo hi st : Option Int} {x : α} (h : x ∈ cut3 xs lo hi st) : x ∈ xs := by
  unfold cut3 at h
  obtain ⟨i, _, e⟩ := List.mem_filterMap.mp h
  exact List.mem_of_getElem? e
theorem cut3_map {α β : Type} (f : α → β) (xs : List α) (lo hi st : Option Int) : cut3 (xs.map f) lo hi st = (cut3 xs lo hi st).map f := by
  unfold cut3
  rw [List.length_map, List.map_filterMap]
  congr 1
  funext i
  rw [List.getElem?_map]
theorem vals_fm {f : List Nat} {xs : List V} {us : List Value} (r : Vals xs us) : Vals (f.filterMap (xs[·]?)) (f.filterMap (us[·]?)) := by
  induction f with
  | nil => exact .nil
  | cons i f ih =>
    rw [List.filterMap_cons, List.filterMap_cons]
    cases h : xs[i]? with
    | some x =>
      obtain ⟨u, hu, ru⟩ := r.get h
      rw [hu]
      exact .cons ru ih
    | none =>
      rw [r.none_of h]
      exact ih
theorem vals_cut3 {xs : List V} {us : List Value} (r : Vals xs us) (lo hi st : Option Int) : Vals (cut3 xs lo hi st) (cut3 us lo hi st) := by
  unfold cut3
  rw [r.length]
  exact vals_fm r
theorem fm_range {α : Type} (ys : List α) : ∀ n, (List.range n).filterMap (fun m => ys[m]?) = ys.take n
  | 0 => by simp
  | n + 1 => by
    rw [List.range_succ, List.filterMap_append, fm_range ys n, List.take_succ]
    cases h : ys[n]? <;> simp [h]
theorem adj_eq (lo hi st : Option Int) (n : Nat) (h0 : st ≠ some 0) : Builtin.Slice.sliceAdjust lo hi (st.getD 1) (n : Int) = ((sliceBounds lo hi st n).1, (sliceBounds lo hi st n).2.1) := by
  unfold Builtin.Slice.sliceAdjust sliceBounds
  have hs : st.getD 1 ≠ 0 := by
    cases st with
    | none => decide
    | some c => intro e; exact h0 (congrArg some e)
  generalize st.getD 1 = k at hs ⊢
  dsimp only
  refine Prod.ext ?_ ?_
  · cases lo with
    | none => dsimp only; split <;> split <;> omega
    | some v => dsimp only; split <;> split <;> split <;> omega
  · cases hi with
    | none => dsimp only; split <;> split <;> omega
    | some v => dsimp only; split <;> split <;> split <;> omega
theorem places_eq (a b k : Int) (hk : k ≠ 0) : (List.range (Builtin.Slice.slicePlaces a b k)).map (fun (m : Nat) => (a + (m : Int) * k).toNat) = sliceRange a b k := by
  unfold Builtin.Slice.slicePlaces sliceRange
  have e : (if k > 0 then (if a < b then (b - a - 1) / k + 1 else 0) else (if a > b then (a - b - 1) / (-k) + 1 else 0)) = (if k > 0 then (if a < b then (b - a + k - 1) / k else 0) else (if a > b then (a - b - k - 1) / (-k) else 0)) := by
    split
    · split
      · rw [show b - a + k - 1 = b - a - 1 + 1 * k by omega, Int.add_mul_ediv_right _ _ hk]
      · rfl
    · split
      · rw [show a - b - k - 1 = a - b - 1 + 1 * (-k) by omega, Int.add_mul_ediv_right _ _ (by omega)]
      · rfl
  dsimp only
  rw [e]
  congr 1
  funext m
  rw [Int.mul_comm]
end L3
namespace HT
open PySem PySem.Spec PyProof.Rows L2
section
variable {prog : Program} {w : World} {A : Around} {E : Value → Shared → Prop} {s : Shared}
theorem sliceApplied_any {sl : Addr} {vl vu vs : Value} {lo hi st : Option Int} {n : Nat} {Q : Int × Int × Nat → Shared → Prop} (hs : s.heap.IsSliceOf sl vl vu vs) (pl : IsPart vl lo) (pu : IsPart vu hi) (ps : IsPart vs st) (h0 : st ≠ some 0)
    (h : Q ((sliceBounds lo hi st n).1, st.getD 1, Builtin.Slice.slicePlaces (sliceBounds lo hi st n).1 (sliceBounds lo hi st n).2.1 (st.getD 1)) s) : wpAny (model prog w) A (Builtin.Slice.sliceApplied (.ref sl) (pure (n : Int))) Q E s := by
  obtain ⟨os, hos, hcs, hds⟩ := id hs
  unfold Builtin.Slice.sliceApplied Builtin.Slice.sliceFields
  refine wpAny_bind (wpAny_bind (wpAny_field hos hds (x := vl) rfl (wpAny_bind (wpAny_field hos hds (x := vu) rfl (wpAny_bind (wpAny_field hos hds (x := vs) rfl (wpAny_pure ?_)))))))
  refine wpAny_bind (slicePart_ ps ?_)
  have hk : st.getD 1 ≠ 0 := by
    cases st with
    | none => decide
    | some c => intro e; exact h0 (congrArg some e)
  show wpAny _ _ (if (st.getD 1 == 0) = true then _ else _) _ _ s
  rw [if_neg (by simpa using hk)]
  refine wpAny_bind (slicePart_ pl (wpAny_bind (slicePart_ pu (wpAny_bind (wpAny_pure ?_)))))
  dsimp only
  rw [L3.adj_eq lo hi st n h0]
  exact wpAny_pure h
theorem getItem_tuple_any {t sl : Addr} {its : List Value} {vl vu vs : Value} {lo hi st : Option Int} {Q : Value → Shared → Prop} (ht : IsTup s.heap t its.toArray) (hs : s.heap.IsSliceOf sl vl vu vs) (pl : IsPart vl lo) (pu : IsPart vu hi) (ps : IsPart vs st) (h0 : st ≠ some 0)
    (h : Q (.ref s.heap.objs.size) { s with heap := s.heap.push { cls := .type "tuple", data := .seq (L3.cut3 its lo hi st).toArray } }) (h' : (∀ (α : Type) (ys : List α), ys.length = its.length → L3.cut3 ys lo hi st = ys) → Q (.ref t) s)
    (hsz : its.length ≤ sizeLine) : wpAny (model prog w) A (getItem (.ref t) (.ref sl)) Q E s := by
  have htake : sizeOk (.seq (L3.cut3 its lo hi st).toArray) := by
    show (L3.cut3 its lo hi st).toArray.size ≤ sizeLine
    rw [List.size_toArray]
    exact Nat.le_trans (L3.cut3_len _ _ _ _) hsz
  obtain ⟨os, hos, hcs, hds⟩ := id hs
  have hTs : s.TypeIs (.ref sl) "slice" := ⟨os, hos, hcs⟩
  have hk : st.getD 1 ≠ 0 := by
    cases st with
    | none => decide
    | some c => intro e; exact h0 (congrArg some e)
  unfold getItem
  try with_reducible refine wpAny_holding ?_
  first | refine wpAny_bind (wpAny_pure ?_) | skip
  refine wpAny_bind (wpAny_sequenceKey ht.typeIs (by decide) ?_)
  refine wpAny_bind (wpAny_callSpecial?_slot (name := Str.ofString "__getitem__") ht.typeIs PyProof.Rows.slot_tuple_getitem
    (wpAny_call_entry PyProof.Rows.slot_tuple_getitem ht.typeIs entry_tuple_getitem ?_ (args_tuple_getitem _ _)))
  show wpAny _ _ (Builtin.Tuple.tupleItemsOf (.ref t) >>= _) _ _ s
  refine wpAny_bind (tupleItemsOf_ ht ?_)
  refine wpAny_bind (wpAny_typeOf hTs ?_)
  rw [if_pos (by decide)]
  refine wpAny_bind (sliceApplied_any hs pl pu ps h0 ?_)
  dsimp only
  have hpick : ((List.range (Builtin.Slice.slicePlaces (sliceBounds lo hi st its.toArray.size).1 (sliceBounds lo hi st its.toArray.size).2.1 (st.getD 1))).filterMap fun (m : Nat) => its.toArray[((sliceBounds lo hi st its.toArray.size).1 + (m : Int) * st.getD 1).toNat]?).toArray = (L3.cut3 its lo hi st).toArray := by
    congr 1
    unfold L3.cut3
    rw [List.size_toArray]
    have e3 : (sliceBounds lo hi st its.length).2.2 = st.getD 1 := rfl
    rw [e3, ← L3.places_eq _ _ _ hk, List.filterMap_map]
    congr 1
    funext m
    show its.toArray[_]? = its[_]?
    rw [List.getElem?_toArray]
  by_cases hw : (((sliceBounds lo hi st its.toArray.size).1 == 0 && st.getD 1 == 1 && Builtin.Slice.slicePlaces (sliceBounds lo hi st its.toArray.size).1 (sliceBounds lo hi st its.toArray.size).2.1 (st.getD 1) == its.toArray.size) = true)
  · have hsame : ∀ (α : Type) (ys : List α), ys.length = its.length → L3.cut3 ys lo hi st = ys := by
      intro α ys hys
      rw [Bool.and_eq_true, Bool.and_eq_true, List.size_toArray] at hw
      obtain ⟨⟨w1, w2⟩, w3⟩ := hw
      unfold L3.cut3
      rw [hys]
      have e3 : (sliceBounds lo hi st its.length).2.2 = st.getD 1 := rfl
      rw [e3, ← L3.places_eq _ _ _ hk, beq_iff_eq.mp w3, beq_iff_eq.mp w1, beq_iff_eq.mp w2, ← hys, List.filterMap_map]
      have : ((fun i => ys[i]?) ∘ fun (m : Nat) => ((0 : Int) + (m : Int) * 1).toNat) = fun m => ys[m]? := by
        funext m
        show ys[((0 : Int) + (m : Int) * 1).toNat]? = _
        rw [show ((0 : Int) + (m : Int) * 1).toNat = m by omega]
      rw [this, L3.fm_range, List.take_length]
    have k := h' hsame
    rw [if_pos hw]
    refine wpAny_bind (wpAny_bind (wpAny_typeOf ht.typeIs (wpAny_pure ?_)))
    show wpAny _ _ (if (Value.type "tuple" == Value.type "tuple") = true then _ else _) _ _ s
    rw [if_pos (by decide)]
    first
      | exact wpAny_bind (wpAny_rule (wpAny_pure ⟨_, rfl, k⟩))
      | exact wpAny_bind (wpAny_rule (wpAny_pure ⟨_, rfl, wpAny_pure k⟩))
      | exact wpAny_bind (wpAny_rule (wpAny_bind (wpAny_pure (wpAny_pure ⟨_, rfl, wpAny_pure k⟩))))
      | exact wpAny_bind (wpAny_rule (wpAny_bind (wpAny_pure ⟨_, rfl, wpAny_pure k⟩)))
      | exact wpAny_bind (wpAny_bind (wpAny_rule (wpAny_pure (wpAny_pure ⟨_, rfl, wpAny_pure k⟩))))
  · rw [if_neg hw, hpick]
    first
      | exact wpAny_bind (m := Builtin.Tuple.tupleExact _) (wpAny_newObj_type (wpAny_pure ⟨_, rfl, wpAny_pure h⟩) htake)
      | exact wpAny_bind (m := Builtin.Tuple.tupleExact _) (wpAny_newObj_type (wpAny_bind (wpAny_pure (wpAny_pure ⟨_, rfl, wpAny_pure h⟩))) htake)
      | exact wpAny_bind (wpAny_bind (m := Builtin.Tuple.tupleExact _) (wpAny_newObj_type (wpAny_pure (wpAny_pure ⟨_, rfl, wpAny_pure h⟩)) htake))
      | exact wpAny_bind (wpAny_bind (m := Builtin.Tuple.tupleExact _) (wpAny_newObj_type (wpAny_pure ⟨_, rfl, wpAny_pure h⟩) htake))
end
end HT
end
section
namespace PySem
open Sem (wp)
namespace SlK
theorem owner_slice : Manifest.owners.lookup (String.ofList ['e', 'c', 'i', 'l', 's'].reverse) = some Manifest.sig_slice := by kernel_rfl
theorem slot_slice_getattribute : Slot "slice" "__getattribute__" "slice.__getattribute__" :=
  .of (owner := "slice") (n := "__getattribute__") (by rw [typeLookup_type, builtinLookup_eq_fast]; kernel_rfl) (by decide +kernel) (by decide +kernel) (by decide +kernel)
    (by first | exact .inl (by decide +kernel) | exact .inr (by decide +kernel)) (by rw [isSubtype_type]; kernel_rfl)
theorem args_slice_getattribute_2 (a b : Value) : argsOk "slice.__getattribute__" ⟨[a, b], []⟩ := by
  unfold argsOk; rw [signature?_of (id := "slice.__getattribute__") (n := ['_', '_', 'e', 't', 'u', 'b', 'i', 'r', 't', 't', 'a', 't', 'e', 'g', '_', '_']) (o := ['e', 'c', 'i', 'l', 's']) (by kernel_rfl) owner_slice]; kernel_rfl
theorem entry_slice_ga : entryFor table "slice.__getattribute__" = some Builtin.«object.__getattribute__» :=
  entryFor_alias (id' := "object.__getattribute__") (by kernel_rfl) (by first | rfl | decide +kernel) (by decide +kernel) (by kernel_rfl)
theorem lk_slice_class : typeLookup (.type "slice") "__class__" = pure (some (.builtin "object.__class__")) := by rw [typeLookup_type, builtinLookup_eq_fast]; kernel_rfl
theorem sub_slice_class_owner : isSubtype (.type "slice") (.type (".".intercalate ("object.__class__".cutAt '.').dropLast)) = pure true := by
  rw [F.owner_object_class, isSubtype_type]; kernel_rfl
section
variable {prog : Program} {w : World} {A : Around} {E : Value → Shared → Prop} {h : Heap} {g : Array GenState} {d : Drawn} {t : Nat} {os : OsState} {a : Addr} {o : Obj}
theorem class_get_slice {R : Result → Shared → Prop} (hx : h.get? a = some o) (hc : o.cls = .type "slice") (hq : R (.ok (.ret (.type "slice"))) ⟨h, g, d, t, os⟩) :
    codeAny (model prog w) A (.call (.builtin "getset_descriptor.__get__") ⟨[.builtin "object.__class__", .ref a, .type "slice"], []⟩) R ⟨h, g, d, t, os⟩ := by
  have hT : (⟨h, g, d, t, os⟩ : Shared).TypeIs (.ref a) "slice" := ⟨_, hx, hc⟩
  have hT5 : (⟨h, g, d, t, os⟩ : Shared).TypeIs (.builtin "object.__class__") "getset_descriptor" := F.typeOf_object_class
  have f8 := sub_slice_class_owner
  refine codeAny_call_builtin F.slot_gs_get.plain F.entry_gs_get (F.slot_gs_get.check _ _ _ _ _ _ _ _ hT5 (F.args_gs_get _ _ _) ?_)
  repeat (any_goals (first | assumption | wp_step))
  refine ⟨Code.quiet_builtin _ (by decide +kernel), codeAny_builtin F.entry_object_class ?_⟩
  repeat (any_goals (first | assumption | wp_step))
theorem class_entry_slice {tk : Tok} {Q : Fin → Shared → Prop} (hx : h.get? a = some o) (hc : o.cls = .type "slice") (hq : Q (.done (.ret (.type "slice"))) ⟨h, g, d, t, os⟩) :
    wpAny (model prog w) A (Builtin.«object.__getattribute__» ⟨[.ref a, .str "__class__" tk], []⟩) Q E ⟨h, g, d, t, os⟩ := by
  have hT : (⟨h, g, d, t, os⟩ : Shared).TypeIs (.ref a) "slice" := ⟨_, hx, hc⟩
  have hT5 : (⟨h, g, d, t, os⟩ : Shared).TypeIs (.builtin "object.__class__") "getset_descriptor" := F.typeOf_object_class
  have f4 := lk_slice_class
  have f5 := F.typeOf_object_class
  have f6 := F.slot_gs_get.lookup
  have f7 := F.slot_gs_set.lookup
  repeat (any_goals (first | assumption | wp_step))
  refine class_get_slice hx hc ?_
  repeat (any_goals (first | assumption | wp_step))
theorem class_call_slice {tk : Tok} {R : Result → Shared → Prop} (hx : h.get? a = some o) (hc : o.cls = .type "slice") (hq : R (.ok (.ret (.type "slice"))) ⟨h, g, d, t, os⟩) :
    codeAny (model prog w) A (.call (.builtin "slice.__getattribute__") ⟨[.ref a, .str "__class__" tk], []⟩) R ⟨h, g, d, t, os⟩ :=
  codeAny_call_builtin slot_slice_getattribute.plain entry_slice_ga (slot_slice_getattribute.check _ _ _ _ _ _ _ _ (show (⟨h, g, d, t, os⟩ : Shared).TypeIs (.ref a) "slice" from ⟨_, hx, hc⟩) (args_slice_getattribute_2 _ _) (class_entry_slice hx hc hq))
theorem class_by_slice {tk : Tok} {Q : Value → Shared → Prop} (hx : h.get? a = some o) (hc : o.cls = .type "slice") (hq : Q (.type "slice") ⟨h, g, d, t, os⟩) : wpAny (model prog w) A (getAttrBy (.ref a) (.str "__class__" tk) false) Q E ⟨h, g, d, t, os⟩ := by
  have hT : (⟨h, g, d, t, os⟩ : Shared).TypeIs (.ref a) "slice" := ⟨_, hx, hc⟩
  have f2 := slot_slice_getattribute.lookup
  have f3 := slot_slice_getattribute.bind (.ref a)
  repeat (any_goals (first | assumption | wp_step))
  refine class_call_slice hx hc ?_
  repeat (any_goals (first | assumption | wp_step))
theorem class_attr_slice {Q : Option Value → Shared → Prop} (hx : h.get? a = some o) (hc : o.cls = .type "slice") (hq : Q (some (.type "slice")) ⟨h, g, d, t + 1, os⟩) : wpAny (model prog w) A (getAttr? (.ref a) "__class__") Q E ⟨h, g, d, t, os⟩ := by
  unfold getAttr? getAttrBy?
  repeat (any_goals (first | assumption | with_reducible apply class_by_slice hx hc | wp_step))
end
theorem kit {K : PySem.W.Frag} {f : Addr} : PySem.W.KitX K (.ref f) (.type "slice") (PySem.W.KitAt f "slice") :=
  PySem.W.kitx_of PySem.W.kitAt_ty (fun {_ _ _ _ _ s} p k => by
    obtain ⟨hp, gs, dr, tk, os⟩ := s
    obtain ⟨o, h1, h2⟩ := p
    exact class_attr_slice h1 h2 k)
end SlK
end PySem
namespace L3
open PySem PySem.Spec PyProof.Rows L2 LamX ItX
section
variable {X : Cx} {K : PySem.W.Frag} {C : Addr} {k j : Nat} {E : XK}
def rIsiS (K : PySem.W.Frag) : List V → Hp → VK → Prop := fun xs H Q => ∃ (sl : Addr) (lo hi st : Option Int) (n : String), xs = [.ref sl, .ty n] ∧ H sl = some (SlO sl lo hi st) ∧ PySem.W.kitOne K (.type "slice") (.type n) = some false ∧ Q (.bl false) H
theorem callIsiS {K : PySem.W.Frag} (hK : X.K = K) : CallR X (.builtin "isinstance") (rIsiS K) := by
  subst hK
  intro pins s σ H xs us Q I r h
  obtain ⟨sl, lo, hi, st, n, rfl, e1, e, q⟩ := h
  obtain ⟨u1, u2, rfl, r1, r2⟩ := vals2 r
  have e2 := (ClsV.ty n).eq r2
  subst e2
  cases (show u1 = Value.ref sl from r1)
  obtain ⟨⟨vl, vu, vs, ⟨o, h1, h2, _⟩, _⟩, _, _⟩ := (show ObjOk X.prog X.w H s.heap sl (SlO sl lo hi st) from I.hok sl _ e1)
  exact PySem.W.kia_one (SlK.kit (K := X.K) (f := sl)) I.kIn ⟨o, h1, h2⟩ e (fun z => nomatch z) fun tk => ⟨.bl false, H, I.tok tk, rfl, q⟩
theorem sub_K2 {prog : Program} {w : World} {A : Around} {E : Value → Shared → Prop} {s : Shared} {K : PySem.W.Frag} {x C f : Addr} {m : Str → Option Value} {ox : Obj} {od : Option Obj} {value slice : Expr} {i : Value} {ops : List Value} {Q : Value → Shared → Prop} (X₀ : K.In s.heap) (I : PySem.W.InstAt s.heap x ox C od)
    (hs : PySem.W.findIn K (.ref C) "__getitem__" = some (some (.ref f))) (hf : PySem.W.fnIn K f = true) (h : wpAny (model prog w) A (getItem (.ref x) i) Q E s)
    (hsl : subscripted slice true (.ref x) i = operate ops (getItem (.ref x) i)) :
    wpAny (model prog w) A (subscriptTail value slice (.ref x) i) Q E s := by
  unfold PySem.W.fnIn at hf
  split at hf
  · rename_i e
    unfold subscriptTail getitemInPython
    refine wpAny_bind (wpAny_bind (wpAny_bind (I.type.here ((PySem.W.looks_findIn X₀ hs).here ?_))))
    dsimp only
    refine wpAny_bind (wpAny_load (X₀ _ _ e) (wpAny_pure ?_))
    dsimp only
    rw [hsl]
    exact wpAny_bind (wpAny_operating (wpAny_mono h (fun v s' z => wpAny_bind (wpAny_letTemporaryGo (wpAny_pure z))) fun _ _ z => z))
  · cases hf
def tSlOwn (C : Addr) (sp : Sp) (E : XK) (te : TE) (tl th ts : TO) : TE := fun σ H Q => te σ H fun x H1 => tl σ H1 fun l H2 => th σ H2 fun u H3 => ts σ H3 fun k H4 => ∃ a dx fs, x = .ref a ∧ H4 a = some (.ins C dx fs) ∧ ∀ sl, H4 sl = none → sp [x, .ref sl] (upd H4 sl (SlO sl l u k)) Q E
theorem pe_slOwn {sp : Sp} {ps : List Str} {o : Expr} {lo hi st : Option Expr} {te : TE} {tl th ts : TO} {p2 pos : Pos} (B : GetM X.prog X.w X.K X.mg X.base C k ps sp) (hr : Room (j + 1) X.A) (hx : Passes (L2.CX X.prog X.w) X E) (he : PE X o te) (hl : PO X lo tl) (hh : PO X hi th) (hst : PO X st ts) (hk : k ≤ j := by decide) :
    PE X (.Subscript o (.Slice lo hi st p2) pos) (tSlOwn C sp E te tl th ts) := by
  obtain ⟨f, fd, h1, h2, h3, h4, hln, G, bb⟩ := B.ex
  refine ⟨fun pins s σ H Q I h => ?_⟩
  refine Subscript_ (thn (he.run pins s σ H _ I h) fun v s1 ⟨x, H1, I1, r1, q1⟩ => ?_)
  refine wpAny_Slice (thn (hl.run pins s1 σ H1 _ I1 q1) fun vl s2 ⟨l, H2, I2, pl, q2⟩ => ?_)
  refine thn (hh.run pins s2 σ H2 _ I2 q2) fun vu s3 ⟨u, H3, I3, pu, q3⟩ => ?_
  refine thn (hst.run pins s3 σ H3 _ I3 q3) fun vs s4 ⟨kk, H4, I4, pk, a, dx, fs, ex, ea, q⟩ => ?_
  subst ex
  cases (show v = Value.ref a from r1)
  have I5 : Inv X pins σ (upd H4 s4.heap.objs.size (SlO s4.heap.objs.size l u kk)) { s4 with heap := s4.heap.push { cls := .type "slice", data := .fields #[vl, vu, vs] } } :=
    I4.laid (t' := s4.toks) (fun b ob q => Heap.get?_push_of_some _ q) (Nat.le_refl _) (slO_ok (Heap.IsSliceOf.new _ vl vu vs) pl pu pk)
  have fresh := I4.hok.fresh (Nat.le_refl s4.heap.objs.size)
  have q5 := q _ fresh
  have ea5 : (upd H4 s4.heap.objs.size (SlO s4.heap.objs.size l u kk)) a = some (.ins C dx fs) := by rw [upd_ne (ne_of_none ea fresh)]; exact ea
  generalize hs5 : ({ s4 with heap := s4.heap.push { cls := .type "slice", data := .fields #[vl, vu, vs] } } : Shared) = s5 at I5
  generalize s4.heap.objs.size = sl at *
  generalize upd H4 sl (SlO sl l u kk) = H5 at *
  obtain ⟨od, J⟩ := ins_inst I5.hok ea5
  obtain ⟨m, Fr⟩ := I5.fr
  have run : ∀ A, (A = X.A ∨ A = X.A.in1) → wpAny (model X.prog X.w) A (call (.ref f) [.ref a, .ref sl]) (EP X pins σ Q) X.xe s5 := by
    intro A hA
    have hA' : Room k A ∧ Env0 X.prog X.w X.K X.mg X.base A X.stack s5 H5 := by
      rcases hA with rfl | rfl
      · exact ⟨hr.mono (Nat.le_succ_of_le hk), I5.env0⟩
      · exact ⟨hr.in1.mono hk, I5.env0.in1⟩
    refine wpAny_call (codeAny_mono (G.run A X.stack s5 H5 ⟨[.ref a, .ref sl], []⟩ [.ref a, .ref sl] [.ref a, .ref sl] Q E hA'.1 hA'.2 (by have := bb s5 [.ref a, .ref sl] I5.kIn hln.symm; rw [List.append_nil] at this; exact this) (.cons (show RelV (.ref a) (.ref a) from rfl) (.cons (show RelV (.ref sl) (.ref sl) from rfl) .nil)) q5) fun r s' z => ?_)
    match r, z with
    | .error e, z => exact hx pins σ H5 s5 e s' I5 z
    | .ok (.ret u), z => exact I5.after z
  cases st with
  | none => exact sub_K2 (m := m) (ops := [.ref sl, .ref a]) I5.kIn J h1 h3 (PySem.W.getItem_K Fr I5.mod.kin J h4 h1 h2 (run _ (.inl rfl))) rfl
  | some e => exact PySem.W.sub_K Fr I5.mod.kin J h1 h3 h2 (run _ (.inr rfl)) rfl
/-- t[sl], t a tuple, sl a slice -/
def rIxSl : R2 := fun x y H Q => ∃ t sl xs lo hi st, x = .ref t ∧ y = .ref sl ∧ H t = some (.tup xs) ∧ H sl = some (SlO sl lo hi st) ∧ st ≠ some 0 ∧ ∀ p H', Ex H H' → H' p = some (.tup (cut3 xs lo hi st)) → Q (.ref p) H'
theorem ixSl : IxR X rIxSl := by
  intro value slice pins s σ H x y v u Q I rx ry h hs
  obtain ⟨t, sl, xs, lo, hi, st, rfl, rfl, ht, hsl, h0, q⟩ := h
  cases rx
  cases ry
  obtain ⟨its, r, p, hz⟩ := I.tuple (.inl (.inl ht))
  have hlen := r.length
  obtain ⟨⟨vl, vu, vs, e1, e2, e3, e4⟩, _, _⟩ := (show ObjOk X.prog X.w H s.heap sl (SlO sl lo hi st) from I.hok sl _ hsl)
  refine tail_any (ops := [.ref t, .ref sl]) p.typeIs (PyProof.Rows.slot_tuple_getitem.lookup) ?_ hs
  refine HT.getItem_tuple_any p e1 e2 e3 e4 h0 ?_ (fun hsame => ?_) (by omega)
  · have fresh := I.hok.fresh (Nat.le_refl s.heap.objs.size)
    refine ⟨.ref _, _, I.laid (t' := s.toks) (o := .tup (cut3 xs lo hi st)) (fun b ob q => Heap.get?_push_of_some _ q) (Nat.le_refl _) ?_, rfl, q _ _ (ex_new fresh) upd_same⟩
    exact ⟨Nat.le_trans (cut3_len _ _ _ _) hz, _, vals_cut3 r lo hi st, IsTup.new _ _⟩
  · refine ⟨.ref t, H, I, rfl, q t H (Ex.refl _) ?_⟩
    rw [hsame V xs hlen]
    exact ht
/-- xs[lo:hi:st], a list -/
def tSl3 (K : PySem.W.Frag) (te : TE) (tl th ts : TO) : TE := fun σ H Q => te σ H fun x H1 => tl σ H1 fun l H2 => th σ H2 fun u H3 => ts σ H3 fun k H4 => ∃ a xs, x = .ref a ∧ SqL K H4 a xs ∧ k ≠ some 0 ∧ ∀ p, H4 p = none → ap Q (.ref p) (upd H4 p (.lst (cut3 xs l u k)))
theorem KX.sl3 {o : Expr} {lo hi st : Option Expr} {te : TE} {tl th ts : TO} {p2 pos : Pos} (hK : X.K = K) (he : PE X o te) (hl : PO X lo tl) (hh : PO X hi th) (hst : PO X st ts) :
    PE X (.Subscript o (.Slice lo hi st p2) pos) (tSl3 K te tl th ts) := by
  subst hK
  refine ⟨fun pins s σ H Q I h => ?_⟩
  refine Subscript_ (thn (he.run pins s σ H _ I h) fun v s1 ⟨x, H1, I1, r1, q1⟩ => ?_)
  refine wpAny_Slice (thn (hl.run pins s1 σ H1 _ I1 q1) fun vl s2 ⟨l, H2, I2, pl, q2⟩ => ?_)
  refine thn (hh.run pins s2 σ H2 _ I2 q2) fun vu s3 ⟨u, H3, I3, pu, q3⟩ => ?_
  refine thn (hst.run pins s3 σ H3 _ I3 q3) fun vs s4 ⟨kk, H4, I4, pk, a, xs, ex, hx, h0, q⟩ => ?_
  subst ex
  cases (show v = Value.ref a from r1)
  have I5 : Inv X pins σ H4 { s4 with heap := s4.heap.push { cls := .type "slice", data := .fields #[vl, vu, vs] } } := I4.kept (t' := s4.toks) fun b ob q => Heap.get?_push_of_some _ q
  have e1 := Heap.IsSliceOf.new s4.heap vl vu vs
  generalize s4.heap.objs.size = sl at e1 ⊢
  generalize hs5 : ({ s4 with heap := s4.heap.push { cls := .type "slice", data := .fields #[vl, vu, vs] } } : Shared) = s5 at I5
  rw [show s4.heap.push { cls := .type "slice", data := .fields #[vl, vu, vs] } = s5.heap by rw [← hs5]] at e1
  obtain ⟨its, r, p, hz⟩ := I5.list hx
  have hlen := r.length
  have fin : wpAny (model X.prog X.w) X.A (getItem (.ref a) (.ref sl)) (EP X pins σ Q) X.xe s5 := by
    refine wpAny_getItem_list_slice p.isList e1 pl pu pk h0 ?_ (by rw [List.size_toArray]; omega)
    rw [cut3_pick]
    refine ⟨.ref _, _, I5.laid (t' := s5.toks) (o := .lst (cut3 xs l u kk)) (fun b ob q => Heap.get?_push_of_some _ q) (Nat.le_refl _) ?_, rfl, q _ (I5.hok.fresh (Nat.le_refl _))⟩
    exact ⟨Nat.le_trans (cut3_len _ _ _ _) hz, _, 0, vals_cut3 r l u kk, Heap.get?_push_size _ rfl⟩
  cases st with
  | none => exact tail_any (ops := [.ref sl, .ref a]) p.isList.typeIs (slot_list_getitem.lookup) fin rfl
  | some e => exact tail_any (ops := [.ref a, .ref sl]) p.isList.typeIs (slot_list_getitem.lookup) fin rfl
theorem truthy_len {prog : Program} {w : World} {A : Around} {E : Value → Shared → Prop} {s : Shared} {K : PySem.W.Frag} {x C f : Addr} {ox : Obj} {od : Option Obj} {Q : Bool → Shared → Prop} (X : K.In s.heap) (I : PySem.W.InstAt s.heap x ox C od)
    (hs : PySem.W.findIn K (.ref C) "__bool__" = some none) (hl : PySem.W.findIn K (.ref C) "__len__" = some (some (.ref f)))
    (h : wpAny (model prog w) A (runValue (.builtin "len" ⟨[.ref x], []⟩)) (fun v s' => ∃ n t, v = .int n t ∧ Q (n != 0) s') E s) : wpAny (model prog w) A (truthy (.ref x)) Q E s := by
  unfold truthy
  refine wpAny_bind (m := callSpecial? (.ref x) (Str.ofString "__bool__")) (wpAny_bind (wpAny_bind (I.type.here ((PySem.W.looks_findIn X hs).here (wpAny_pure ?_)))))
  refine wpAny_bind (wpAny_bind (I.type.here ((PySem.W.looks_findIn X hl).here ?_)))
  refine wpAny_bind (wpAny_mono h (fun v s' z => ?_) fun _ _ z => z)
  obtain ⟨n, t, rfl, q⟩ := z
  exact wpAny_pure q
theorem call_boolL {prog : Program} {w : World} {A : Around} {E : Value → Shared → Prop} {s : Shared} {K : PySem.W.Frag} {x C f : Addr} {ox : Obj} {od : Option Obj} {Q : Value → Shared → Prop} (X : K.In s.heap) (I : PySem.W.InstAt s.heap x ox C od)
    (hs : PySem.W.findIn K (.ref C) "__bool__" = some none) (hl : PySem.W.findIn K (.ref C) "__len__" = some (some (.ref f))) (hf : PySem.W.isFn K (.ref f) = true)
    (h : wpAny (model prog w) A.in1.in1.in1 (call (.ref f) [.ref x]) (PySem.W.LenBack fun v s' => ∃ n t, v = .int n t ∧ Q (.bool (n != 0)) s') E s) : wpAny (model prog w) A (call (.type "bool") [.ref x]) Q E s := by
  refine callType_newIn (S := fun A R s => wpAny (model prog w) A.in1 (truthy (.ref x)) (fun b s' => R (.ok (.ret (.bool b))) s') (fun e s' => R (.error e) s') s) PySem.F.called_bool PySem.F.newNe_bool (PySem.F.typeCall_bool_1 _) (PySem.F.newCall_bool_1 _) (fun obj => PySem.F.args_object_init_2 obj _) PySem.F.entry_bool_new (fun A R s hs => ?_) ?_
  · obtain ⟨hp, g, d, tk, os⟩ := s
    have f1 := PySem.F.conv_sub_bool
    repeat (any_goals (first | assumption | (refine wpAny_bind (m := truthy (.ref x)) (wpAny_mono hs (fun b s' hb => ?_) fun _ _ e => e)) | wp_step))
    all_goals first | exact hb | skip
  · refine truthy_len X I hs hl (wpAny_runValue (codeAny_builtin entry_len ?_))
    rw [Around.under_plain (show (Code.builtin "len" ⟨[.ref x], []⟩).weight = 0 by rfl) (show (Code.builtin "len" ⟨[.ref x], []⟩).cUnits = 1 by rfl)]
    unfold Builtin.«len»
    refine wpAny_bind (m := oneArg "len" _) (wpAny_pure ?_)
    refine wpAny_bind (m := callSpecial? (.ref x) (Str.ofString "__len__")) (PySem.W.special_fn X I hl (beq_iff_eq.mp hf) (wpAny_mono h (fun r s' hr => ?_) fun _ _ y => y))
    cases r <;> first | exact hr.elim | skip
    rename_i n u
    obtain ⟨⟨h0, h1⟩, n', t', e, hq⟩ := hr
    cases e
    refine wpAny_bind (wpAny_holding (wpAny_pure ?_))
    refine wpAny_bind (wpAny_letGo ?_)
    show wpAny _ _ (if n < 0 then _ else _) _ _ _
    rw [if_neg (by omega)]
    show wpAny _ _ (if n ≥ 2 ^ 63 then _ else _) _ _ _
    rw [if_neg (by omega)]
    refine wpAny_bind (wpAny_mkInt (wpAny_pure ?_))
    exact ⟨n, s'.toks, rfl, rfl, hq⟩
def rBoolLen (C : Addr) (sp : Sp) (E : XK) : List V → Hp → VK → Prop := fun xs H Q => ∃ a dx fs, xs = [.ref a] ∧ H a = some (.ins C dx fs) ∧ sp [.ref a] H (fun z H' => ∃ n : Int, z = .int n ∧ 0 ≤ n ∧ n < 2 ^ 63 ∧ Q (.bl (n != 0)) H') E
theorem callBoolLen {sp : Sp} (B : Me X.prog X.w X.K X.mg X.base C "__len__" k ["self"] sp) (nb : PySem.W.findIn X.K (.ref C) "__bool__" = some none) (hr : Room (j + 3) X.A) (hx : Passes (L2.CX X.prog X.w) X E) (hk : k ≤ j := by decide) : CallR X (.type "bool") (rBoolLen C sp E) := by
  obtain ⟨f, fd, h1, h2, G, b⟩ := B.ex
  intro pins s σ H xs us Q I r h
  obtain ⟨a, dx, fs, rfl, ea, q⟩ := h
  obtain ⟨u, rfl, rx⟩ := vals1 r
  cases (show u = Value.ref a from rx)
  obtain ⟨od, J⟩ := ins_inst I.hok ea
  refine call_boolL I.kIn J nb h1 h2 ?_
  refine wpAny_call (codeAny_mono (G.run X.A.in1.in1.in1 X.stack s H ⟨[.ref a], []⟩ [.ref a] [.ref a] (fun z H' => ∃ n : Int, z = .int n ∧ 0 ≤ n ∧ n < 2 ^ 63 ∧ Q (.bl (n != 0)) H') E (hr.in1.in1.in1.mono hk) I.env0.in1.in1.in1 (by have := b s [.ref a] I.kIn rfl; rw [List.append_nil] at this; exact this) (.cons (show RelV (.ref a) (.ref a) from rfl) .nil) q) fun r s' z => ?_)
  match r, z with
  | .error e, z => exact hx pins σ H s e s' I z
  | .ok (.ret u), z =>
    obtain ⟨v', H', I', r', n, rfl, h0, h1, q'⟩ := I.after z
    obtain ⟨t, rfl⟩ := (show ∃ t, u = Value.int n t from r')
    exact ⟨⟨h0, h1⟩, n, _, rfl, .bl (n != 0), H', I'.tok _, rfl, q'⟩
end
section
variable {K : PySem.W.Frag} {C : Addr} {E : XK} {σ : L2.St} {H : Hp} {D : Ends} {Q : VK} {te : TE} {tl th ts : TO} {sp : Sp}
theorem s_slOwn (h : te σ H fun x H1 => tl σ H1 fun l H2 => th σ H2 fun u H3 => ts σ H3 fun k H4 => ∃ a dx fs, x = .ref a ∧ H4 a = some (.ins C dx fs) ∧ ∀ sl, H4 sl = none → sp [x, .ref sl] (upd H4 sl (SlO sl l u k)) Q E) : tSlOwn C sp E te tl th ts σ H Q := h
theorem s_sl3 (h : te σ H fun x H1 => tl σ H1 fun l H2 => th σ H2 fun u H3 => ts σ H3 fun k H4 => ∃ a xs, x = .ref a ∧ SqL K H4 a xs ∧ k ≠ some 0 ∧ ∀ p, H4 p = none → ap Q (.ref p) (upd H4 p (.lst (cut3 xs l u k)))) : tSl3 K te tl th ts σ H Q := h
theorem s_lcO {spn : Nat → Sp} {ee : TE} {g : TG} {tt : TT} {vs : List Nat} (h : te σ H fun x H1 => ∃ a dx fs, x = .ref a ∧ H1 a = some (.ins C dx fs) ∧ ∀ n, spn n [.ref a] H1 (fun v H2 => ∃ it t, v = .ref it ∧ H2 it = some (ItT t it) ∧ n ≤ it ∧ LC (Itt K t) g tt ee vs σ (dropH H2 it) Q) E) : tLc (iOwn K C spn E te) g tt ee vs σ H Q := h
theorem s_sl3L {l u k : Option Int} {p : Addr} {xs : List V} (hp : H p = some (.lst xs)) (h0 : k ≠ some 0) (h : ∀ q H2, Ex H H2 → H2 q = some (.lst (cut3 xs l u k)) → Q (.ref q) H2) : ∃ a ys, V.ref p = .ref a ∧ SqL K H a ys ∧ k ≠ some 0 ∧ ∀ q, H q = none → ap Q (.ref q) (upd H q (.lst (cut3 ys l u k))) :=
  ⟨p, xs, rfl, .inl (.inl hp), h0, fun q hq => h q _ (ex_new hq) upd_same⟩
theorem inV_int (i : Int) (ns : List Int) : inV (.int i) (ns.map V.int) = decide (i ∈ ns) := by
  induction ns with
  | nil => rfl
  | cons n r ih =>
    unfold inV at ih ⊢
    rw [List.map_cons, List.any_cons, ih]
    have e : eqV (.int n) (.int i) = decide (i = n) := by
      unfold eqV
      show (n == i) = _
      by_cases z : n = i
      · subst z; simp
      · have z2 : ¬ i = n := fun q => z q.symm
        simp [z, z2]
    rw [e]
    by_cases h : i = n
    · subst h; simp
    · by_cases h2 : i ∈ r
      · simp [h, h2]
      · simp [h, h2]
end
end L3
end
section
namespace L3
open PySem PySem.NumText PySem.Spec PyProof.Rows L2 LamX RZ ClX
def ErU (K : PySem.W.Frag) (g : Str) (tag : Str) (c : Addr) (cls : Value) (d : Option Addr) (H' : Hp) (Q : VK) : Prop := ∃ dd v t, cls = .ref c ∧ d = some dd ∧ H' dd = some (.xd [(g, v)]) ∧ (∀ H2 (R : VK), Ex H' H2 → R (.str t) H2 → rReprU K [v] H2 R) ∧
  ∀ p H2, H' p = none → Ex H' H2 → H2 p = some (.tup [.str tag, .str t]) → Q (.ref p) H2
def TTcu (K : PySem.W.Frag) (CB CC CM CT CN : Addr) : (XK → Hp → VK → Prop) → Hp → VK → Prop := fun tl H Q => ∀ H0, Ex H H0 → ∀ (W : XK) (S : VK),
  (∀ cls d H', (ErP "part" "chunks" CC cls d H' Q ∨ ErU K "value" "size" CB cls d H' Q ∨ ErU K "value" "total" CT cls d H' Q ∨ ErU K "at" "chunk" CN cls d H' Q ∨ ErM CM cls d H' Q) → W cls d H') →
  (∀ v H', (∀ p H2, H' p = none → Ex H' H2 → H2 p = some (.lst [v]) → Q (.ref p) H2) → S v H') → tl W H0 S
section
variable {K : PySem.W.Frag} {CB CC CM CT CN : Addr} {σ : L2.St} {H : Hp} {Q : VK}
theorem s_huPt {Tt : List (Addr × Str)} {t : XK → TE} {v : V} (ht : Tabs Tt H) (ask : ∀ (E : XK) (H1 : Hp) (Q' : VK), ExtN H H1 → Tabs Tt H1 → Rz CC "part" v H1 E → t E σ H1 Q')
    (k : ∀ p H', ExtN H H' → Tabs Tt H' → H' p = some (.tup [.str "chunks", v]) → Q (.ref p) H') : tLam Tt (TTcu K CB CC CM CT CN) t σ H Q := by
  refine ⟨ht, fun H1 e1 t1 H0 e0 W S hW hS => ?_⟩
  show t _ σ H0 _
  exact ask _ H0 _ (e1.trans e0.n) (t1.ext e0) fun d H' nd e' hd => hW _ _ _ (.inl ⟨d, v, rfl, rfl, hd, fun p H2 np e2 h2 => k p H2 (e1.trans (e0.trans (e'.trans e2)).n) (t1.ext (e0.trans (e'.trans e2))) h2⟩)
theorem s_huMy {Tt : List (Addr × Str)} {t : XK → TE} {v1 v2 : V} (ht : Tabs Tt H) (ask : ∀ (E : XK) (H1 : Hp) (Q' : VK), ExtN H H1 → Tabs Tt H1 → Rz2 CM "what" "most" v1 v2 H1 E → t E σ H1 Q')
    (k : ∀ p H', ExtN H H' → Tabs Tt H' → H' p = some (.tup [.str "many", v1, v2]) → Q (.ref p) H') : tLam Tt (TTcu K CB CC CM CT CN) t σ H Q := by
  refine ⟨ht, fun H1 e1 t1 H0 e0 W S hW hS => ?_⟩
  show t _ σ H0 _
  exact ask _ H0 _ (e1.trans e0.n) (t1.ext e0) fun d H' nd e' hd => hW _ _ _ (.inr (.inr (.inr (.inr ⟨d, v1, v2, rfl, rfl, hd, fun p H2 np e2 h2 => k p H2 (e1.trans (e0.trans (e'.trans e2)).n) (t1.ext (e0.trans (e'.trans e2))) h2⟩))))
theorem s_huSz {Tt : List (Addr × Str)} {t : XK → TE} {v : V} {tx : Str} (ht : Tabs Tt H) (hx : Vl H v tx) (ask : ∀ (E : XK) (H1 : Hp) (Q' : VK), ExtN H H1 → Tabs Tt H1 → Rz CB "value" v H1 E → t E σ H1 Q')
    (k : ∀ p H', ExtN H H' → Tabs Tt H' → H' p = some (.tup [.str "size", .str tx]) → Q (.ref p) H') : tLam Tt (TTcu K CB CC CM CT CN) t σ H Q := by
  refine ⟨ht, fun H1 e1 t1 H0 e0 W S hW hS => ?_⟩
  show t _ σ H0 _
  exact ask _ H0 _ (e1.trans e0.n) (t1.ext e0) fun d H' nd e' hd => hW _ _ _ (.inr (.inl ⟨d, v, tx, rfl, rfl, hd, fun H2 R e2 r => (hx.exN (e1.trans (e0.trans (e'.trans e2)).n)).repr r, fun p H2 np e2 h2 => k p H2 (e1.trans (e0.trans (e'.trans e2)).n) (t1.ext (e0.trans (e'.trans e2))) h2⟩))
theorem s_huAt {Tt : List (Addr × Str)} {t : XK → TE} {v : V} {tx : Str} (ht : Tabs Tt H) (hx : Vl H v tx) (ask : ∀ (E : XK) (H1 : Hp) (Q' : VK), ExtN H H1 → Tabs Tt H1 → Rz CN "at" v H1 E → t E σ H1 Q')
    (k : ∀ p H', ExtN H H' → Tabs Tt H' → H' p = some (.tup [.str "chunk", .str tx]) → Q (.ref p) H') : tLam Tt (TTcu K CB CC CM CT CN) t σ H Q := by
  refine ⟨ht, fun H1 e1 t1 H0 e0 W S hW hS => ?_⟩
  show t _ σ H0 _
  exact ask _ H0 _ (e1.trans e0.n) (t1.ext e0) fun d H' nd e' hd => hW _ _ _ (.inr (.inr (.inr (.inl ⟨d, v, tx, rfl, rfl, hd, fun H2 R e2 r => (hx.exN (e1.trans (e0.trans (e'.trans e2)).n)).repr r, fun p H2 np e2 h2 => k p H2 (e1.trans (e0.trans (e'.trans e2)).n) (t1.ext (e0.trans (e'.trans e2))) h2⟩))))
def rOwnT (K : PySem.W.Frag) (C : Addr) (sp : Sp) (E : XK) : R2 := fun x y H Q => ∃ a dx fs T, x = .ref a ∧ H a = some (.ins C dx fs) ∧ TyX K H y (.type T) ∧ T ∈ numTys ∧ sp [x, y] H Q E
theorem eqOwnT {X : Cx} {C : Addr} {k j : Nat} {sp : Sp} {E : XK} (hK : X.K = K) (F : CmpF X.K C) (B : Me X.prog X.w X.K X.mg X.base C "__eq__" k ["self", "other"] sp) (hr : Room j X.A) (hx : Passes (L2.CX X.prog X.w) X E) (hk : k ≤ j := by decide) :
    OpR X (compareOp .Eq) (rOwnT K C sp E) := by
  subst hK
  obtain ⟨f, fd, h1, h2, G, b⟩ := B.ex
  intro pins s σ H x y v u Q I rx ry h
  obtain ⟨a, dx, fs, T, rfl, ea, ty, hm, q⟩ := h
  obtain rfl : v = Value.ref a := rx
  obtain ⟨od, J⟩ := ins_inst I.hok ea
  obtain ⟨P', kx, hP, _⟩ := kit_of I ry ty
  obtain ⟨mm, Fr⟩ := I.fr
  show wpAny _ _ (richCompare .Eq _ _) _ _ _
  exact PySem.W.cmp_K hr.units0 Fr I.mod.kin J (kx.ty _ _ I.kIn hP) (List.all_eq_true.mp F.notF T hm) h1 h2 (wpAny_mono (run_fn G (hr.mono hk) b .nil hx I (vs := [.ref a, y]) (.cons (show RelV (.ref a) (.ref a) from rfl) (.cons ry .nil)) (by rw [List.append_nil]; exact q)) (fun w' s' ⟨v', H', I', r', z⟩ => rel_back r' ⟨v', H', I', r', z⟩) fun _ _ z => z)
theorem lcLI {te : TE} {a : Addr} {xs : List V} {j : Nat} {tt : TT} {vs : List Nat} (b : Nat → Bool) (f : Nat → V) (ha : H a = some (.lst xs)) (hz : xs.length < sizeLine) (hw : ∀ x, wipe ((wipe σ vs).set j (some x)) vs = wipe σ vs)
    (ht : ∀ (i : Nat) (x : V) (H1 : Hp) (R : Bool → Hp → Prop), xs[i]? = some x → Ex H H1 → R (b i) H1 → tt ((wipe σ vs).set j (some x)) H1 R) (he : ∀ (i : Nat) (x : V) (H1 : Hp) (R : VK), xs[i]? = some x → b i = true → Ex H H1 → (∀ H2, Ex H1 H2 → R (f i) H2) → te ((wipe σ vs).set j (some x)) H1 R)
    (k : ∀ D H2, H D = none → Ex H H2 → H2 D = some (.lst (((List.range xs.length).filter b).map f)) → Q (.ref D) H2) : LC (Itl K a) (gName j) tt te vs σ H Q := by
  intro D hD
  refine lc_list (K := K) (a := a) (xs := xs) (fun n H1 => Ex H H1 ∧ H1 D = some (.lst (((List.range n).filter b).map f))) ⟨ex_new hD, upd_same⟩ (fun n H1 _ ⟨e, _⟩ => .inl (.inl (e _ _ ha))) (fun n x H1 hx ⟨e, h1⟩ => ?_) (fun H1 ⟨e, h1⟩ => k D H1 hD e h1)
  have hn : n < xs.length := (List.getElem?_eq_some_iff.mp hx).1
  have er : List.range (n + 1) = List.range n ++ [n] := List.range_succ
  refine ⟨hw _, ht n x H1 _ hx e ?_⟩
  cases hb : b n with
  | true =>
    refine iteT (he n x H1 _ hx hb e fun H2 e2 => ⟨_, e2 _ _ h1, ?_, fun c o hc => ?_, ?_⟩)
    · rw [List.length_map]
      exact Nat.lt_of_le_of_lt (Nat.le_trans (List.length_filter_le _ _) (by rw [List.length_range]; omega)) hz
    · rw [upd_ne (ne_of_none hc hD)]; exact e2 _ _ (e _ _ hc)
    · rw [upd_same, er, List.filter_append, List.map_append]
      simp [hb]
  | false =>
    refine iteF ⟨e, ?_⟩
    rw [er, List.filter_append]
    simpa [hb] using h1
theorem filt_no (n : Nat) : (List.range n).filter (fun _ => false) = [] := List.filter_eq_nil_iff.mpr fun _ _ h => nomatch h
/-- lists of ints, new ones -/
def LsAt (H : Hp) : List Addr → List (List Int) → Prop
  | [], [] => True
  | q :: qs, n :: ns => H q = some (.lst (n.map V.int)) ∧ LsAt H qs ns
  | _, _ => False
theorem LsAt.imp {H H' : Hp} : ∀ {qs : List Addr} {nss : List (List Int)}, LsAt H qs nss → (∀ q ∈ qs, ∀ n : List Int, H q = some (.lst (n.map V.int)) → H' q = some (.lst (n.map V.int))) → LsAt H' qs nss
  | [], [], _, _ => trivial
  | q :: _, _ :: _, ⟨a, b⟩, k => ⟨k q List.mem_cons_self _ a, LsAt.imp b fun q h => k q (List.mem_cons_of_mem _ h)⟩
  | [], _ :: _, h, _ => h.elim
  | _ :: _, [], h, _ => h.elim
theorem LsAt.app {H : Hp} {q : Addr} {n : List Int} (hq : H q = some (.lst (n.map V.int))) : ∀ {qs : List Addr} {nss : List (List Int)}, LsAt H qs nss → LsAt H (qs ++ [q]) (nss ++ [n])
  | [], [], _ => ⟨hq, trivial⟩
  | _ :: _, _ :: _, ⟨a, b⟩ => ⟨a, LsAt.app hq b⟩
  | [], _ :: _, h => h.elim
  | _ :: _, [], h => h.elim
theorem LsAt.len {H : Hp} : ∀ {qs : List Addr} {nss : List (List Int)}, LsAt H qs nss → qs.length = nss.length
  | [], [], _ => rfl
  | _ :: _, _ :: _, ⟨_, b⟩ => by rw [List.length_cons, List.length_cons, LsAt.len b]
  | [], _ :: _, h => h.elim
  | _ :: _, [], h => h.elim
def lsD (ns : List Int) : PyData := .list (ns.map PyData.int)
theorem LsAt.dp {H : Hp} : ∀ {qs : List Addr} {nss : List (List Int)}, LsAt H qs nss → DpAll K H (qs.map V.ref) (nss.map lsD)
  | [], [], _ => .nil
  | _ :: _, _ :: _, ⟨a, b⟩ => .cons (.lst (.inl (.inl a)) (dpInts _)) (LsAt.dp b)
  | [], _ :: _, h => h.elim
  | _ :: _, [], h => h.elim
theorem shLists (nss : List (List Int)) : SeqAt.shaped (.list (nss.map lsD)) = true := by
  have h1 : PyData.canLayAll0 (nss.map lsD) = true := canAll fun d hd => by
    obtain ⟨ns, _, rfl⟩ := List.mem_map.mp hd
    exact SeqAt.canLay_of_shaped (shInts ns)
  have h2 : PyData.depthAll (nss.map lsD) ≤ 1 := depAll fun d hd => by
    obtain ⟨ns, _, rfl⟩ := List.mem_map.mp hd
    unfold lsD PyData.depth
    rw [depInts]
    decide
  unfold SeqAt.shaped PyData.canLay0 PyData.depth
  rw [h1]
  simp only [Bool.true_and]
  exact decide_eq_true (by omega)
theorem lcLists {te : TE} {a : Addr} {xs : List V} {j : Nat} {vs : List Nat} (nss : List (List Int)) (ha : H a = some (.lst xs)) (hl : xs.length = nss.length) (hz : xs.length < sizeLine) (hw : ∀ x, wipe ((wipe σ vs).set j (some x)) vs = wipe σ vs)
    (step : ∀ (i : Nat) (x : V) (ns : List Int) (H1 : Hp) (R : VK), xs[i]? = some x → nss[i]? = some ns → Ex H H1 → (∀ q H2, H1 q = none → Ex H1 H2 → H2 q = some (.lst (ns.map V.int)) → R (.ref q) H2) → te ((wipe σ vs).set j (some x)) H1 R)
    (k : ∀ D H2 qs, H D = none → Ex H H2 → H2 D = some (.lst (qs.map V.ref)) → LsAt H2 qs nss → Q (.ref D) H2) : LC (Itl K a) (gName j) tYes te vs σ H Q := by
  intro D hD
  refine lc_list (K := K) (a := a) (xs := xs) (fun n H1 => Ex H H1 ∧ ∃ qs : List Addr, H1 D = some (.lst (qs.map V.ref)) ∧ LsAt H1 qs (nss.take n) ∧ D ∉ qs) ⟨ex_new hD, [], upd_same, trivial, by simp⟩ (fun n H1 _ ⟨e, _⟩ => .inl (.inl (e _ _ ha))) (fun n x H1 hx ⟨e, qs, h1, h2, h3⟩ => ?_) (fun H1 ⟨e, qs, h1, h2, h3⟩ => ?_)
  · have hn : n < xs.length := (List.getElem?_eq_some_iff.mp hx).1
    have hns : nss[n]? = some nss[n] := List.getElem?_eq_getElem (by omega)
    refine ⟨hw _, ?_⟩
    unfold tYes
    dsimp only
    refine iteT (step n x _ H1 _ hx hns e fun q H2 nq e2 hq => ?_)
    have hqD : q ≠ D := fun z => by rw [z, h1] at nq; cases nq
    refine ⟨_, e2 _ _ h1, ?_, fun c o hc => ?_, qs ++ [q], ?_, ?_, ?_⟩
    · rw [List.length_map, h2.len, List.length_take]; omega
    · rw [upd_ne (ne_of_none hc hD)]; exact e2 _ _ (e _ _ hc)
    · rw [upd_same, List.map_append]; rfl
    · rw [take_snoc hns]
      refine LsAt.app (by rw [upd_ne hqD]; exact hq) (h2.imp fun r hr n hn => ?_)
      rw [upd_ne (show r ≠ D from fun z => h3 (by rw [← z]; exact hr))]
      exact e2 _ _ hn
    · intro z
      rcases List.mem_append.mp z with z | z
      · exact h3 z
      · exact hqD (List.mem_singleton.mp z).symm
  · rw [hl, List.take_length] at h2
    exact k D H1 qs hD e h1 h2
theorem shMix (a b c : List Int) (t : Int) : SeqAt.shaped (.list [tupD a, .int t, tupD b, tupD c]) = true := by
  have h1 : PyData.canLayAll0 [tupD a, .int t, tupD b, tupD c] = true := canAll fun d hd => by
    simp only [List.mem_cons, List.not_mem_nil, or_false] at hd
    rcases hd with rfl | rfl | rfl | rfl
    · exact SeqAt.canLay_of_shaped (shTup _)
    · rfl
    · exact SeqAt.canLay_of_shaped (shTup _)
    · exact SeqAt.canLay_of_shaped (shTup _)
  have h2 : PyData.depthAll [tupD a, .int t, tupD b, tupD c] ≤ 1 := depAll fun d hd => by
    simp only [List.mem_cons, List.not_mem_nil, or_false] at hd
    rcases hd with rfl | rfl | rfl | rfl
    · exact depTup _
    · exact Nat.zero_le _
    · exact depTup _
    · exact depTup _
  unfold SeqAt.shaped PyData.canLay0 PyData.depth
  rw [h1]
  simp only [Bool.true_and]
  exact decide_eq_true (by omega)
theorem cut3_all {α : Type} (xs : List α) : cut3 xs none none none = xs := by
  unfold cut3
  have e : sliceBounds none none none xs.length = (0, (xs.length : Int), 1) := rfl
  rw [e]
  have := places_eq 0 (xs.length : Int) 1 (by decide)
  rw [← this, List.filterMap_map]
  have p : Builtin.Slice.slicePlaces 0 (xs.length : Int) 1 = xs.length := by
    unfold Builtin.Slice.slicePlaces
    simp only [show (1 : Int) > 0 by decide, if_true, Int.ediv_one]
    split <;> omega
  rw [p]
  have q : ((fun i => xs[i]?) ∘ fun (m : Nat) => ((0 : Int) + (m : Int) * 1).toNat) = fun m => xs[m]? := by
    funext m
    show xs[((0 : Int) + (m : Int) * 1).toNat]? = _
    rw [show ((0 : Int) + (m : Int) * 1).toNat = m by omega]
  rw [q, fm_range, List.take_length]
end
end L3
end
section
local macro_rules | `(tactic| tm_at "s1") => `(tactic| first
  | with_reducible first
    | refine L3.s_seq ?_ | refine L3.s_asg ?_ | refine L3.s_op ?_ | refine L3.s_c ?_ | refine L3.s_cb ?_ | refine L3.s_cons ?_ | refine L3.s_nil ?_ | refine L3.s_test ?_ | refine L3.s_bl ?_
    | refine L3.s_I0 ?_ | refine L3.s_and ?_ | refine L3.s_or ?_ | refine L3.s_not ?_ | refine L3.s_if ?_ | refine L3.s_next ?_ | refine L3.s_ret ?_ | refine L3.s_retN ?_ | refine L3.s_asgS ?_ | refine L3.s_drop ?_
    | refine L3.s_un ?_ | refine L3.s_U ?_ | refine L3.s_int ?_ | refine L3.s_intB ?_ | refine L3.s_abs ?_ | refine L3.s_andV ?_ | refine L3.s_orV ?_ | refine L3.s_notV ?_ | refine L3.s_ifE ?_ | refine L3.s_call ?_ | refine L3.s_lst ?_ | refine L3.s_tup ?_ | refine L3.s_tB ?_
    | refine L3.s_addI ?_ | refine L3.s_inS ?_ | refine L3.s_ninS ?_ | refine L3.s_slice ?_ | refine L3.s_part ?_ | refine L3.s_partI ?_ | refine L3.s_nopart ?_ | refine L3.s_cI ?_ | refine L3.s_cB ?_ | refine L3.s_chain ?_ | refine L3.s_bm ?_ | refine L3.s_lcS ?_ | refine L3.s_lcR ?_ | refine L3.s_strE ?_
    | refine L2.iteT ?_ | refine L2.iteF ?_ | refine L3.iteNF ?_ | refine L3.iteNT ?_
    | refine L3.s_eqI ?_ | refine L3.s_neI ?_ | refine L3.s_eqS ?_ | refine L3.s_neS ?_
    | refine L3.s_pair ?_ | refine L3.s_pair2 ?_ | refine L3.s_fld ?_ | refine L3.s_make ?_ | refine L3.s_m1 ?_ | refine L3.s_isstr ?_
    | refine L3.s_xfV ?_ | refine L3.s_lstN ?_ | refine L3.s_callF ?_ | refine L3.s_lcL ?_ | refine L3.s_par3 ?_ | refine L3.s_trip ?_ | refine L3.s_asgT' ?_ | refine L3.s_gC ?_ | refine L3.s_gN ?_ | refine L3.s_fldG ?_ | refine L3.s_raise1 ?_ | refine L3.s_raise2 ?_ | refine L3.s_star ?_ | refine L3.s_mkCR ?_ | refine L3.s_lcZ ?_ | refine L3.s_forL ?_ | refine L3.s_forT ?_ | refine L3.s_gNm ?_ | refine L3.s_forE ?_ | refine L3.s_stC ?_ | refine L3.s_cmC ?_ | refine L3.s_forR1 ?_ | refine L3.s_lcTp ?_ | refine L3.s_forZ ?_ | refine L3.s_orT ?_ | refine L3.s_mt ?_ | refine L3.s_revT ?_ | refine L3.s_revL ?_
    | refine L3.s_isN ?_ | refine L3.s_isB ?_ | refine L3.s_nisN ?_ | refine L3.s_nisB ?_
  | ((with_reducible refine' L3.s_var ?e ?_); (case e => rfl))
  | ((with_reducible refine' L3.s_aug ?e ?_); (case e => rfl))
  | ((with_reducible refine' L3.s_pow ?c ?_); (case c => exact ⟨by decide, by decide, by decide⟩)))
local macro_rules | `(tactic| tm_at "s") => `(tactic| repeat tm_at "s1")
namespace K09
open PySem PySem.NumText PySem.Spec PyProof.Rows L2 L3 LamX RZ ClX
abbrev s__law_heard : Stmt := topS 32
abbrev names__law_heard : List Str := ["_law_ask", "_law_caught", "_law_found", "error", "_law_some"]
theorem sc__law_heard : FnScope ["_law_ask", "_law_caught", "_law_found", "error", "_law_some"] ["_law_ask"] (defScope s__law_heard) := ⟨rfl, rfl, rfl, by decide +kernel, rfl, by decide +kernel, by decide +kernel⟩
theorem heard_gives {X : Cx} {C CB CC CM CL CT CN CW g : Addr} {cdg : Value} {k : Nat} {q : Str} (T : Txt X.K X.mg C CB CC CM CL CT CN CW) (F5 : Kit5 X.K CB CC CM CT CN) (hg : X.A.guards = some []) (hr : Room (k + 1) X.A) :
    GivesTo X names__law_heard "_law_heard" (defScope s__law_heard) g cdg (defBody s__law_heard) "_law_ask" q (TTcu X.K CB CC CM CT CN) := by
  intro f c' s H Q tl act hc h
  obtain ⟨K, hK⟩ : ∃ K, X.K = K := ⟨_, rfl⟩
  rw [hK] at T F5 h
  refine ⟨_, pss_cons (ps_asg (pe_tup (pa_cons pe_non (pa_cons pe_non pa_nil))) (KX.tup (K := K) (by exact hK) rfl (pgs_cons (pg_name (i := 1) sc__law_heard.nd rfl (Or.inl rfl)) (pgs_cons (pg_name (i := 2) sc__law_heard.nd rfl (Or.inl rfl)) pgs_nil)))) (pss_cons (ps_try_note (i := 3) (m := 1) (c := .ref CL) (Wout := fun _ _ _ _ => False)
      (tb := fun W D σ H => ∃ Ech : XK, (∀ cls d σ' H', Ech cls d H' → W cls d σ' H') ∧ σ[0]? = some (some (.ref f)) ∧ H c' = some (CodeO c' q) ∧ tl Ech H fun v H' => D.nx (σ.set 2 (some v)) H')
      rfl rfl rfl sc__law_heard.nd rfl rfl rfl rfl ⟨rfl, by decide, .inl T.g_LateError⟩ takes0 rfl rfl rfl (fun W pn xe tk _ => ?_)) (pss_cons (ps_if (pt_cmpR opIs (pv 1) pe_non (nomark _)) (pss_one (ps_ret (pe_lst (pa_cons (pv 2) pa_nil)))) pss_nil)
      (pss_cons (ps_set (i := 4) sc__law_heard.nd rfl (Or.inl rfl) (pe_lst pa_nil))
      (pss_cons (ps_if (pt_val (pe_callB (KX.isiX (K := K) (by exact hK)) (by rfl) T.b_isinstance (by decide +kernel) (pa_cons (pv 1) (pa_cons (C8.pe_gc (by rfl) T.g_BadChunks) pa_nil)))) (pss_one (ps_expr (pe_bm PySem.F.plainAttrs_list PySem.F.slot_list_append PySem.F.type_list_append mt_append (pv 4) (pa_cons (pe_tup (pa_cons pe_str (pa_cons (KX.xfV (K := K) (by exact hK) (pv 1) (by rfl)) pa_nil))) pa_nil)))) pss_nil)
      (pss_cons (ps_if (pt_val (pe_callB (KX.isiX (K := K) (by exact hK)) (by rfl) T.b_isinstance (by decide +kernel) (pa_cons (pv 1) (pa_cons (C8.pe_gc (by rfl) T.g_BadSize) pa_nil)))) (pss_one (ps_expr (pe_bm PySem.F.plainAttrs_list PySem.F.slot_list_append PySem.F.type_list_append mt_append (pv 4) (pa_cons (pe_tup (pa_cons pe_str (pa_cons (pe_callB (callReprU (K := K) (by exact hK) hg (hr.deeper _).units) (by rfl) T.b_repr (by decide +kernel) (pa_cons (KX.xfV (K := K) (by exact hK) (pv 1) (by rfl)) pa_nil)) pa_nil))) pa_nil)))) pss_nil)
      (pss_cons (ps_if (pt_val (pe_callB (KX.isiX (K := K) (by exact hK)) (by rfl) T.b_isinstance (by decide +kernel) (pa_cons (pv 1) (pa_cons (C8.pe_gc (by rfl) T.g_BadTotal) pa_nil)))) (pss_one (ps_expr (pe_bm PySem.F.plainAttrs_list PySem.F.slot_list_append PySem.F.type_list_append mt_append (pv 4) (pa_cons (pe_tup (pa_cons pe_str (pa_cons (pe_callB (callReprU (K := K) (by exact hK) hg (hr.deeper _).units) (by rfl) T.b_repr (by decide +kernel) (pa_cons (KX.xfV (K := K) (by exact hK) (pv 1) (by rfl)) pa_nil)) pa_nil))) pa_nil)))) pss_nil)
      (pss_cons (ps_if (pt_val (pe_callB (KX.isiX (K := K) (by exact hK)) (by rfl) T.b_isinstance (by decide +kernel) (pa_cons (pv 1) (pa_cons (C8.pe_gc (by rfl) T.g_NoChunk) pa_nil)))) (pss_one (ps_expr (pe_bm PySem.F.plainAttrs_list PySem.F.slot_list_append PySem.F.type_list_append mt_append (pv 4) (pa_cons (pe_tup (pa_cons pe_str (pa_cons (pe_callB (callReprU (K := K) (by exact hK) hg (hr.deeper _).units) (by rfl) T.b_repr (by decide +kernel) (pa_cons (KX.xfV (K := K) (by exact hK) (pv 1) (by rfl)) pa_nil)) pa_nil))) pa_nil)))) pss_nil)
      (pss_cons (ps_if (pt_val (pe_callB (KX.isiX (K := K) (by exact hK)) (by rfl) T.b_isinstance (by decide +kernel) (pa_cons (pv 1) (pa_cons (C8.pe_gc (by rfl) T.g_TooMany) pa_nil)))) (pss_one (ps_expr (pe_bm PySem.F.plainAttrs_list PySem.F.slot_list_append PySem.F.type_list_append mt_append (pv 4) (pa_cons (pe_tup (pa_cons pe_str (pa_cons (KX.xfV (K := K) (by exact hK) (pv 1) (by rfl)) (pa_cons (KX.xfV (K := K) (by exact hK) (pv 1) (by rfl)) pa_nil)))) pa_nil)))) pss_nil)
      (pss_one (ps_ret (pe_ifExp (PW.pt (pw_and (pt_cmpR (KX.eqU (K := K) (by exact hK) (hr.deeper _).units) (pe_callB (KX.callLen (K := K) (by exact hK)) (by rfl) T.b_len (by decide +kernel) (pa_cons (pv 4) pa_nil)) pe_int (nomark _)) (pw_and1 (pt_val (pe_callB (KX.isiX (K := K) (by exact hK)) (by rfl) T.b_isinstance (by decide +kernel) (pa_cons (pv 1) (pa_cons (pe_bltn (v := .ty "ValueError") (u := .type "ValueError") (by rfl) T.b_ValueError (by decide +kernel) rfl) pa_nil))))))) (pe_ix (KX.ixU (K := K) (by exact hK)) (pv 4) pe_int (fun _ _ => rfl)) (pe_tup (pa_cons pe_str pa_nil))))))))))))), ?_⟩
  · refine ⟨fun pins s' σ H' D I h' => ?_⟩
    obtain ⟨Ech, hW, h1, h2, h3⟩ := h'
    have hp := fun p1 p2 => act W pn xe Ech p1 p2 tk hW
    exact (pss_one (ps_set (i := 2) sc__law_heard.nd rfl (Or.inl rfl) (hp _ _))).run pins s' σ H' D I ⟨h1, h2, h3⟩
  · tm_at "s"
    refine s_new (Nat.le_of_lt (small1000 (by simp))) fun nn H0 hnn e0 hn0 => ?_
    refine s_gT hn0 rfl ?_
    tm_at "s"
    refine ⟨fun cls d H' => ErP "part" "chunks" CC cls d H' Q ∨ ErU K "value" "size" CB cls d H' Q ∨ ErU K "value" "total" CT cls d H' Q ∨ ErU K "at" "chunk" CN cls d H' Q ∨ ErM CM cls d H' Q, ?_, rfl, e0 _ _ hc, h H0 e0 _ _ (fun cls d H' z => z) (fun v H1 kq => ?_)⟩
    · rintro cls d σ' H1 (⟨dd, v, rfl, rfl, hdd, k1⟩ | ⟨dd, v, xd, rfl, rfl, hdd, hx1, k1⟩ | ⟨dd, v, xd, rfl, rfl, hdd, hx1, k1⟩ | ⟨dd, v, xd, rfl, rfl, hdd, hx1, k1⟩ | ⟨dd, v1, v2, rfl, rfl, hdd, k1⟩)
      · refine ⟨true, by have e := T.r.em; rw [← hK] at e; exact e, fun _ hl a ha => ?_, fun z => nomatch z⟩
        obtain ⟨x, y, z, u, w5, rfl⟩ : ∃ x y z u w5, σ' = [x, y, z, u, w5] := by
          match σ', hl with
          | [x, y, z, u, w5], _ => exact ⟨x, y, z, u, w5, rfl⟩
        have hx : Ex H1 (upd H1 a (ExV a (.ref CC) (some dd))) := ex_new ha
        have hd2 := hx _ _ hdd
        have ha2 : (upd H1 a (ExV a (.ref CC) (some dd))) a = some (ExV a (.ref CC) (some dd)) := upd_same
        generalize upd H1 a (ExV a (.ref CC) (some dd)) = H2 at hx hd2 ha2 ⊢
        try dsimp only
        tm_at "s"
        refine iteD (fun z => nomatch z) (fun _ => ?_)
        tm_at "s"
        refine s_new (Nat.le_of_lt (small1000 (by simp))) fun ls H3 nls e3 hls => ?_
        have ha3 := e3 _ _ ha2
        have hd3 := e3 _ _ hd2
        have nal : a ≠ ls := ne_of_none ha2 nls
        have ndl : dd ≠ ls := ne_of_none hd2 nls
        try dsimp only
        tm_at "s"
        refine .inr ⟨a, CC, dd, _, _, _, true, rfl, .own CC, ha3, hd3, T.r.exc, T.r.kB, ?_⟩
        tm_at "s"
        refine s_tyL hls ?_
        tm_at "s"
        refine ⟨a, CC, dd, _, v, rfl, ha3, hd3, T.r.xf, T.r.nV _ (by simp), rfl, ?_⟩
        tm_at "s"
        refine s_new (Nat.le_of_lt (small1000 (by simp))) fun p H4 hp e4 h4 => ?_
        have npl : p ≠ ls := fun z => by rw [z, hls] at hp; cases hp
        tm_at "s"
        refine s_app (e4 _ _ hls) (small1000 (by simp)) ?_
        have ha5 : (upd H4 ls (HO.lst ([] ++ [V.ref p]))) a = some (ExV a (.ref CC) (some dd)) := by rw [upd_ne nal]; exact e4 _ _ ha3
        have hd5 : (upd H4 ls (HO.lst ([] ++ [V.ref p]))) dd = some (.xd [("part", v)]) := by rw [upd_ne ndl]; exact e4 _ _ hd3
        have hl5 : (upd H4 ls (HO.lst ([] ++ [V.ref p]))) ls = some (.lst [.ref p]) := upd_same
        have hp5 : (upd H4 ls (HO.lst ([] ++ [V.ref p]))) p = some (.tup [.str "chunks", v]) := by rw [upd_ne npl]; exact h4
        have ex5 : Ex H1 (upd H4 ls (HO.lst ([] ++ [V.ref p]))) := fun b o hb => by rw [upd_ne (ne_of_none (hx _ _ hb) nls)]; exact e4 _ _ (e3 _ _ (hx _ _ hb))
        generalize upd H4 ls (HO.lst ([] ++ [V.ref p])) = H5 at ha5 hd5 hl5 hp5 ex5 ⊢
        try dsimp only
        tm_at "s"
        refine .inr ⟨a, CC, dd, _, _, _, false, rfl, .own CB, ha5, hd5, T.r.exc, F5.CC_CB, ?_⟩
        tm_at "s"
        refine .inr ⟨a, CC, dd, _, _, _, false, rfl, .own CT, ha5, hd5, T.r.exc, F5.CC_CT, ?_⟩
        tm_at "s"
        refine .inr ⟨a, CC, dd, _, _, _, false, rfl, .own CN, ha5, hd5, T.r.exc, F5.CC_CN, ?_⟩
        tm_at "s"
        refine .inr ⟨a, CC, dd, _, _, _, false, rfl, .own CM, ha5, hd5, T.r.exc, F5.CC_CM, ?_⟩
        tm_at "s"
        refine s_lenL hl5 ?_
        tm_at "s"
        refine iteD (fun _ => ?_) (fun z => absurd rfl z)
        tm_at "s"
        refine .inr ⟨a, CC, dd, _, _, _, true, rfl, .ty "ValueError", ha5, hd5, T.r.exc, T.r.kV, ?_⟩
        tm_at "s"
        refine s_iL (v := .ref p) hl5 rfl ?_
        tm_at "s"
        exact k1 p H5 ((hx.trans e3).free hp) ex5 hp5
      · refine ⟨true, by have e := T.s.em; rw [← hK] at e; exact e, fun _ hl a ha => ?_, fun z => nomatch z⟩
        obtain ⟨x, y, z, u, w5, rfl⟩ : ∃ x y z u w5, σ' = [x, y, z, u, w5] := by
          match σ', hl with
          | [x, y, z, u, w5], _ => exact ⟨x, y, z, u, w5, rfl⟩
        have hx : Ex H1 (upd H1 a (ExV a (.ref CB) (some dd))) := ex_new ha
        have hd2 := hx _ _ hdd
        have ha2 : (upd H1 a (ExV a (.ref CB) (some dd))) a = some (ExV a (.ref CB) (some dd)) := upd_same
        generalize upd H1 a (ExV a (.ref CB) (some dd)) = H2 at hx hd2 ha2 ⊢
        try dsimp only
        tm_at "s"
        refine iteD (fun z => nomatch z) (fun _ => ?_)
        tm_at "s"
        refine s_new (Nat.le_of_lt (small1000 (by simp))) fun ls H3 nls e3 hls => ?_
        have ha3 := e3 _ _ ha2
        have hd3 := e3 _ _ hd2
        have nal : a ≠ ls := ne_of_none ha2 nls
        have ndl : dd ≠ ls := ne_of_none hd2 nls
        try dsimp only
        tm_at "s"
        refine .inr ⟨a, CB, dd, _, _, _, false, rfl, .own CC, ha3, hd3, T.s.exc, F5.CB_CC, ?_⟩
        tm_at "s"
        refine .inr ⟨a, CB, dd, _, _, _, true, rfl, .own CB, ha3, hd3, T.s.exc, T.s.kB, ?_⟩
        tm_at "s"
        refine s_tyL hls ?_
        tm_at "s"
        refine ⟨a, CB, dd, _, v, rfl, ha3, hd3, T.s.xf, T.s.nV _ (by simp), rfl, ?_⟩
        tm_at "s"
        refine hx1 _ _ (hx.trans e3) ?_
        tm_at "s"
        refine s_new (Nat.le_of_lt (small1000 (by simp))) fun p H4 hp e4 h4 => ?_
        have npl : p ≠ ls := fun z => by rw [z, hls] at hp; cases hp
        tm_at "s"
        refine s_app (e4 _ _ hls) (small1000 (by simp)) ?_
        have ha5 : (upd H4 ls (HO.lst ([] ++ [V.ref p]))) a = some (ExV a (.ref CB) (some dd)) := by rw [upd_ne nal]; exact e4 _ _ ha3
        have hd5 : (upd H4 ls (HO.lst ([] ++ [V.ref p]))) dd = some (.xd [("value", v)]) := by rw [upd_ne ndl]; exact e4 _ _ hd3
        have hl5 : (upd H4 ls (HO.lst ([] ++ [V.ref p]))) ls = some (.lst [.ref p]) := upd_same
        have hp5 : (upd H4 ls (HO.lst ([] ++ [V.ref p]))) p = some (.tup [.str "size", .str xd]) := by rw [upd_ne npl]; exact h4
        have ex5 : Ex H1 (upd H4 ls (HO.lst ([] ++ [V.ref p]))) := fun b o hb => by rw [upd_ne (ne_of_none (hx _ _ hb) nls)]; exact e4 _ _ (e3 _ _ (hx _ _ hb))
        generalize upd H4 ls (HO.lst ([] ++ [V.ref p])) = H5 at ha5 hd5 hl5 hp5 ex5 ⊢
        try dsimp only
        tm_at "s"
        refine .inr ⟨a, CB, dd, _, _, _, false, rfl, .own CT, ha5, hd5, T.s.exc, F5.CB_CT, ?_⟩
        tm_at "s"
        refine .inr ⟨a, CB, dd, _, _, _, false, rfl, .own CN, ha5, hd5, T.s.exc, F5.CB_CN, ?_⟩
        tm_at "s"
        refine .inr ⟨a, CB, dd, _, _, _, false, rfl, .own CM, ha5, hd5, T.s.exc, F5.CB_CM, ?_⟩
        tm_at "s"
        refine s_lenL hl5 ?_
        tm_at "s"
        refine iteD (fun _ => ?_) (fun z => absurd rfl z)
        tm_at "s"
        refine .inr ⟨a, CB, dd, _, _, _, true, rfl, .ty "ValueError", ha5, hd5, T.s.exc, T.s.kV, ?_⟩
        tm_at "s"
        refine s_iL (v := .ref p) hl5 rfl ?_
        tm_at "s"
        exact k1 p H5 ((hx.trans e3).free hp) ex5 hp5
      · refine ⟨true, by have e := T.t.em; rw [← hK] at e; exact e, fun _ hl a ha => ?_, fun z => nomatch z⟩
        obtain ⟨x, y, z, u, w5, rfl⟩ : ∃ x y z u w5, σ' = [x, y, z, u, w5] := by
          match σ', hl with
          | [x, y, z, u, w5], _ => exact ⟨x, y, z, u, w5, rfl⟩
        have hx : Ex H1 (upd H1 a (ExV a (.ref CT) (some dd))) := ex_new ha
        have hd2 := hx _ _ hdd
        have ha2 : (upd H1 a (ExV a (.ref CT) (some dd))) a = some (ExV a (.ref CT) (some dd)) := upd_same
        generalize upd H1 a (ExV a (.ref CT) (some dd)) = H2 at hx hd2 ha2 ⊢
        try dsimp only
        tm_at "s"
        refine iteD (fun z => nomatch z) (fun _ => ?_)
        tm_at "s"
        refine s_new (Nat.le_of_lt (small1000 (by simp))) fun ls H3 nls e3 hls => ?_
        have ha3 := e3 _ _ ha2
        have hd3 := e3 _ _ hd2
        have nal : a ≠ ls := ne_of_none ha2 nls
        have ndl : dd ≠ ls := ne_of_none hd2 nls
        try dsimp only
        tm_at "s"
        refine .inr ⟨a, CT, dd, _, _, _, false, rfl, .own CC, ha3, hd3, T.t.exc, F5.CT_CC, ?_⟩
        tm_at "s"
        refine .inr ⟨a, CT, dd, _, _, _, false, rfl, .own CB, ha3, hd3, T.t.exc, F5.CT_CB, ?_⟩
        tm_at "s"
        refine .inr ⟨a, CT, dd, _, _, _, true, rfl, .own CT, ha3, hd3, T.t.exc, T.t.kB, ?_⟩
        tm_at "s"
        refine s_tyL hls ?_
        tm_at "s"
        refine ⟨a, CT, dd, _, v, rfl, ha3, hd3, T.t.xf, T.t.nV _ (by simp), rfl, ?_⟩
        tm_at "s"
        refine hx1 _ _ (hx.trans e3) ?_
        tm_at "s"
        refine s_new (Nat.le_of_lt (small1000 (by simp))) fun p H4 hp e4 h4 => ?_
        have npl : p ≠ ls := fun z => by rw [z, hls] at hp; cases hp
        tm_at "s"
        refine s_app (e4 _ _ hls) (small1000 (by simp)) ?_
        have ha5 : (upd H4 ls (HO.lst ([] ++ [V.ref p]))) a = some (ExV a (.ref CT) (some dd)) := by rw [upd_ne nal]; exact e4 _ _ ha3
        have hd5 : (upd H4 ls (HO.lst ([] ++ [V.ref p]))) dd = some (.xd [("value", v)]) := by rw [upd_ne ndl]; exact e4 _ _ hd3
        have hl5 : (upd H4 ls (HO.lst ([] ++ [V.ref p]))) ls = some (.lst [.ref p]) := upd_same
        have hp5 : (upd H4 ls (HO.lst ([] ++ [V.ref p]))) p = some (.tup [.str "total", .str xd]) := by rw [upd_ne npl]; exact h4
        have ex5 : Ex H1 (upd H4 ls (HO.lst ([] ++ [V.ref p]))) := fun b o hb => by rw [upd_ne (ne_of_none (hx _ _ hb) nls)]; exact e4 _ _ (e3 _ _ (hx _ _ hb))
        generalize upd H4 ls (HO.lst ([] ++ [V.ref p])) = H5 at ha5 hd5 hl5 hp5 ex5 ⊢
        try dsimp only
        tm_at "s"
        refine .inr ⟨a, CT, dd, _, _, _, false, rfl, .own CN, ha5, hd5, T.t.exc, F5.CT_CN, ?_⟩
        tm_at "s"
        refine .inr ⟨a, CT, dd, _, _, _, false, rfl, .own CM, ha5, hd5, T.t.exc, F5.CT_CM, ?_⟩
        tm_at "s"
        refine s_lenL hl5 ?_
        tm_at "s"
        refine iteD (fun _ => ?_) (fun z => absurd rfl z)
        tm_at "s"
        refine .inr ⟨a, CT, dd, _, _, _, true, rfl, .ty "ValueError", ha5, hd5, T.t.exc, T.t.kV, ?_⟩
        tm_at "s"
        refine s_iL (v := .ref p) hl5 rfl ?_
        tm_at "s"
        exact k1 p H5 ((hx.trans e3).free hp) ex5 hp5
      · refine ⟨true, by have e := T.n.em; rw [← hK] at e; exact e, fun _ hl a ha => ?_, fun z => nomatch z⟩
        obtain ⟨x, y, z, u, w5, rfl⟩ : ∃ x y z u w5, σ' = [x, y, z, u, w5] := by
          match σ', hl with
          | [x, y, z, u, w5], _ => exact ⟨x, y, z, u, w5, rfl⟩
        have hx : Ex H1 (upd H1 a (ExV a (.ref CN) (some dd))) := ex_new ha
        have hd2 := hx _ _ hdd
        have ha2 : (upd H1 a (ExV a (.ref CN) (some dd))) a = some (ExV a (.ref CN) (some dd)) := upd_same
        generalize upd H1 a (ExV a (.ref CN) (some dd)) = H2 at hx hd2 ha2 ⊢
        try dsimp only
        tm_at "s"
        refine iteD (fun z => nomatch z) (fun _ => ?_)
        tm_at "s"
        refine s_new (Nat.le_of_lt (small1000 (by simp))) fun ls H3 nls e3 hls => ?_
        have ha3 := e3 _ _ ha2
        have hd3 := e3 _ _ hd2
        have nal : a ≠ ls := ne_of_none ha2 nls
        have ndl : dd ≠ ls := ne_of_none hd2 nls
        try dsimp only
        tm_at "s"
        refine .inr ⟨a, CN, dd, _, _, _, false, rfl, .own CC, ha3, hd3, T.n.exc, F5.CN_CC, ?_⟩
        tm_at "s"
        refine .inr ⟨a, CN, dd, _, _, _, false, rfl, .own CB, ha3, hd3, T.n.exc, F5.CN_CB, ?_⟩
        tm_at "s"
        refine .inr ⟨a, CN, dd, _, _, _, false, rfl, .own CT, ha3, hd3, T.n.exc, F5.CN_CT, ?_⟩
        tm_at "s"
        refine .inr ⟨a, CN, dd, _, _, _, true, rfl, .own CN, ha3, hd3, T.n.exc, T.n.kB, ?_⟩
        tm_at "s"
        refine s_tyL hls ?_
        tm_at "s"
        refine ⟨a, CN, dd, _, v, rfl, ha3, hd3, T.n.xf, T.n.nV _ (by simp), rfl, ?_⟩
        tm_at "s"
        refine hx1 _ _ (hx.trans e3) ?_
        tm_at "s"
        refine s_new (Nat.le_of_lt (small1000 (by simp))) fun p H4 hp e4 h4 => ?_
        have npl : p ≠ ls := fun z => by rw [z, hls] at hp; cases hp
        tm_at "s"
        refine s_app (e4 _ _ hls) (small1000 (by simp)) ?_
        have ha5 : (upd H4 ls (HO.lst ([] ++ [V.ref p]))) a = some (ExV a (.ref CN) (some dd)) := by rw [upd_ne nal]; exact e4 _ _ ha3
        have hd5 : (upd H4 ls (HO.lst ([] ++ [V.ref p]))) dd = some (.xd [("at", v)]) := by rw [upd_ne ndl]; exact e4 _ _ hd3
        have hl5 : (upd H4 ls (HO.lst ([] ++ [V.ref p]))) ls = some (.lst [.ref p]) := upd_same
        have hp5 : (upd H4 ls (HO.lst ([] ++ [V.ref p]))) p = some (.tup [.str "chunk", .str xd]) := by rw [upd_ne npl]; exact h4
        have ex5 : Ex H1 (upd H4 ls (HO.lst ([] ++ [V.ref p]))) := fun b o hb => by rw [upd_ne (ne_of_none (hx _ _ hb) nls)]; exact e4 _ _ (e3 _ _ (hx _ _ hb))
        generalize upd H4 ls (HO.lst ([] ++ [V.ref p])) = H5 at ha5 hd5 hl5 hp5 ex5 ⊢
        try dsimp only
        tm_at "s"
        refine .inr ⟨a, CN, dd, _, _, _, false, rfl, .own CM, ha5, hd5, T.n.exc, F5.CN_CM, ?_⟩
        tm_at "s"
        refine s_lenL hl5 ?_
        tm_at "s"
        refine iteD (fun _ => ?_) (fun z => absurd rfl z)
        tm_at "s"
        refine .inr ⟨a, CN, dd, _, _, _, true, rfl, .ty "ValueError", ha5, hd5, T.n.exc, T.n.kV, ?_⟩
        tm_at "s"
        refine s_iL (v := .ref p) hl5 rfl ?_
        tm_at "s"
        exact k1 p H5 ((hx.trans e3).free hp) ex5 hp5
      · refine ⟨true, by have e := T.m.em; rw [← hK] at e; exact e, fun _ hl a ha => ?_, fun z => nomatch z⟩
        obtain ⟨x, y, z, u, w5, rfl⟩ : ∃ x y z u w5, σ' = [x, y, z, u, w5] := by
          match σ', hl with
          | [x, y, z, u, w5], _ => exact ⟨x, y, z, u, w5, rfl⟩
        have hx : Ex H1 (upd H1 a (ExV a (.ref CM) (some dd))) := ex_new ha
        have hd2 := hx _ _ hdd
        have ha2 : (upd H1 a (ExV a (.ref CM) (some dd))) a = some (ExV a (.ref CM) (some dd)) := upd_same
        generalize upd H1 a (ExV a (.ref CM) (some dd)) = H2 at hx hd2 ha2 ⊢
        try dsimp only
        tm_at "s"
        refine iteD (fun z => nomatch z) (fun _ => ?_)
        tm_at "s"
        refine s_new (Nat.le_of_lt (small1000 (by simp))) fun ls H3 nls e3 hls => ?_
        have ha3 := e3 _ _ ha2
        have hd3 := e3 _ _ hd2
        have nal : a ≠ ls := ne_of_none ha2 nls
        have ndl : dd ≠ ls := ne_of_none hd2 nls
        try dsimp only
        tm_at "s"
        refine .inr ⟨a, CM, dd, _, _, _, false, rfl, .own CC, ha3, hd3, T.m.exc, F5.CM_CC, ?_⟩
        tm_at "s"
        refine .inr ⟨a, CM, dd, _, _, _, false, rfl, .own CB, ha3, hd3, T.m.exc, F5.CM_CB, ?_⟩
        tm_at "s"
        refine .inr ⟨a, CM, dd, _, _, _, false, rfl, .own CT, ha3, hd3, T.m.exc, F5.CM_CT, ?_⟩
        tm_at "s"
        refine .inr ⟨a, CM, dd, _, _, _, false, rfl, .own CN, ha3, hd3, T.m.exc, F5.CM_CN, ?_⟩
        tm_at "s"
        refine .inr ⟨a, CM, dd, _, _, _, true, rfl, .own CM, ha3, hd3, T.m.exc, T.m.kB, ?_⟩
        tm_at "s"
        refine s_tyL hls ?_
        tm_at "s"
        refine ⟨a, CM, dd, _, v1, rfl, ha3, hd3, T.m.xf, T.m.nV _ (by simp), rfl, ?_⟩
        tm_at "s"
        refine ⟨a, CM, dd, _, v2, rfl, ha3, hd3, T.m.xf, T.m.nV _ (by simp), rfl, ?_⟩
        tm_at "s"
        refine s_new (Nat.le_of_lt (small1000 (by simp))) fun p H4 hp e4 h4 => ?_
        have npl : p ≠ ls := fun z => by rw [z, hls] at hp; cases hp
        tm_at "s"
        refine s_app (e4 _ _ hls) (small1000 (by simp)) ?_
        have ha5 : (upd H4 ls (HO.lst ([] ++ [V.ref p]))) a = some (ExV a (.ref CM) (some dd)) := by rw [upd_ne nal]; exact e4 _ _ ha3
        have hd5 : (upd H4 ls (HO.lst ([] ++ [V.ref p]))) dd = some (.xd [("most", v2), ("what", v1)]) := by rw [upd_ne ndl]; exact e4 _ _ hd3
        have hl5 : (upd H4 ls (HO.lst ([] ++ [V.ref p]))) ls = some (.lst [.ref p]) := upd_same
        have hp5 : (upd H4 ls (HO.lst ([] ++ [V.ref p]))) p = some (.tup [.str "many", v1, v2]) := by rw [upd_ne npl]; exact h4
        have ex5 : Ex H1 (upd H4 ls (HO.lst ([] ++ [V.ref p]))) := fun b o hb => by rw [upd_ne (ne_of_none (hx _ _ hb) nls)]; exact e4 _ _ (e3 _ _ (hx _ _ hb))
        generalize upd H4 ls (HO.lst ([] ++ [V.ref p])) = H5 at ha5 hd5 hl5 hp5 ex5 ⊢
        try dsimp only
        tm_at "s"
        refine s_lenL hl5 ?_
        tm_at "s"
        refine iteD (fun _ => ?_) (fun z => absurd rfl z)
        tm_at "s"
        refine .inr ⟨a, CM, dd, _, _, _, true, rfl, .ty "ValueError", ha5, hd5, T.m.exc, T.m.kV, ?_⟩
        tm_at "s"
        refine s_iL (v := .ref p) hl5 rfl ?_
        tm_at "s"
        exact k1 p H5 ((hx.trans e3).free hp) ex5 hp5
    · try dsimp only
      tm_at "s"
      refine iteD (fun _ => ?_) (fun z => absurd rfl z)
      tm_at "s"
      refine s_new (Nat.le_of_lt (small1000 (by simp))) fun p H3 hp e3 h3 => ?_
      exact kq p H3 hp e3 h3
/-- the def that hears, as the text has it -/
structure HeF (K : PySem.W.Frag) (mg : Str → Option Value) : Prop where
  ex : ∃ (g : Addr) (gd : FuncData), L2.Fun K "_law_heard" "_law_heard" s__law_heard g gd ∧ mg "_law_heard" = some (.ref g) ∧ L2.Binds K gd ["_law_ask"] []
theorem pe__law_heard {X : Cx} {TT : List (Addr × Str)} {C CB CC CM CL CT CN CW c Pt : Addr} {k : Nat} {params : Arguments} {body : Expr} {scope : Scope} {t : XK → TE} {p lpos pos : Pos} (FH : HeF X.K X.mg) (T : Txt X.K X.mg C CB CC CM CL CT CN CW) (F5 : Kit5 X.K CB CC CM CT CN) (TB : TabB X.base X.mg c Pt) (hg : X.A.guards = some []) (hr : Room (k + 2) X.A)
    (hmT : (Pt, X.env.qual ++ "<lambda>") ∈ TT) (huT : ∀ p ∈ TT, p.1 = Pt → p.2 = X.env.qual ++ "<lambda>") (L : LamS X.env.scope scope)
    (hbody : ∀ (A : Around) (outer : List Env) (s : Shared) (H : Hp) (E : XK) (f c' : Addr), Room k (A.deeper (lamEnv X scope s.heap.objs.size f c')) → PE (lamCx X A outer s H E scope f c') body (t E))
    (gl : Gl X "_law_heard" := by rfl) (hcode : X.env.code = .ref c := by rfl) (hdef : defaultsOf params X.env = ([], []) := by rfl)
    (hbind : ∀ (q : Str) (cl : List (Str × Addr)) (pm cv ctv : Value), bindArgs (PySem.W.kla_fn "<lambda>" q params body scope cl pm cv ctv) ⟨[], []⟩ = pure [] := by intros; rfl) :
    PE X (.Call (.Name "_law_heard" p) [.Lambda params body scope lpos] [] pos) (tLam TT (TTcu X.K CB CC CM CT CN) t) := by
  obtain ⟨g, gd, F, m, b⟩ := FH.ex
  obtain ⟨oc, od, kV, doc, pm, an, cd, ct, sl, rfl, lk, hcd⟩ := F.ex
  exact pe_lamcall gl m F.kp lk hcd b sc__law_heard rfl (.inl rfl) (heard_gives T F5 hg hr) TB hcode hmT huT hr L hdef hbind hbody
end K09
end
section
local macro_rules | `(tactic| tm_at "s1") => `(tactic| first
  | with_reducible first
    | refine L3.s_seq ?_ | refine L3.s_asg ?_ | refine L3.s_op ?_ | refine L3.s_c ?_ | refine L3.s_cb ?_ | refine L3.s_cons ?_ | refine L3.s_nil ?_ | refine L3.s_test ?_ | refine L3.s_bl ?_
    | refine L3.s_I0 ?_ | refine L3.s_and ?_ | refine L3.s_or ?_ | refine L3.s_not ?_ | refine L3.s_if ?_ | refine L3.s_next ?_ | refine L3.s_ret ?_ | refine L3.s_retN ?_ | refine L3.s_asgS ?_ | refine L3.s_drop ?_
    | refine L3.s_un ?_ | refine L3.s_U ?_ | refine L3.s_int ?_ | refine L3.s_intB ?_ | refine L3.s_abs ?_ | refine L3.s_andV ?_ | refine L3.s_orV ?_ | refine L3.s_notV ?_ | refine L3.s_ifE ?_ | refine L3.s_call ?_ | refine L3.s_lst ?_ | refine L3.s_tup ?_ | refine L3.s_tB ?_
    | refine L3.s_addI ?_ | refine L3.s_inS ?_ | refine L3.s_ninS ?_ | refine L3.s_slice ?_ | refine L3.s_part ?_ | refine L3.s_partI ?_ | refine L3.s_nopart ?_ | refine L3.s_cI ?_ | refine L3.s_cB ?_ | refine L3.s_chain ?_ | refine L3.s_bm ?_ | refine L3.s_lcS ?_ | refine L3.s_lcR ?_ | refine L3.s_strE ?_
    | refine L2.iteT ?_ | refine L2.iteF ?_ | refine L3.iteNF ?_ | refine L3.iteNT ?_
    | refine L3.s_eqI ?_ | refine L3.s_neI ?_ | refine L3.s_eqS ?_ | refine L3.s_neS ?_
    | refine L3.s_pair ?_ | refine L3.s_pair2 ?_ | refine L3.s_fld ?_ | refine L3.s_make ?_ | refine L3.s_m1 ?_ | refine L3.s_isstr ?_
    | refine L3.s_xfV ?_ | refine L3.s_lstN ?_ | refine L3.s_callF ?_ | refine L3.s_lcL ?_ | refine L3.s_par3 ?_ | refine L3.s_trip ?_ | refine L3.s_asgT' ?_ | refine L3.s_gC ?_ | refine L3.s_gN ?_ | refine L3.s_fldG ?_ | refine L3.s_raise1 ?_ | refine L3.s_raise2 ?_ | refine L3.s_star ?_ | refine L3.s_mkCR ?_ | refine L3.s_lcZ ?_ | refine L3.s_forL ?_ | refine L3.s_forT ?_ | refine L3.s_gNm ?_ | refine L3.s_forE ?_ | refine L3.s_stC ?_ | refine L3.s_cmC ?_ | refine L3.s_forR1 ?_ | refine L3.s_lcTp ?_ | refine L3.s_forZ ?_ | refine L3.s_orT ?_ | refine L3.s_mt ?_ | refine L3.s_revT ?_ | refine L3.s_revL ?_ | refine L3.s_slOwn ?_ | refine L3.s_sl3 ?_ | refine L3.s_lcO ?_ | refine L3.s_stR ?_
    | refine L3.s_isN ?_ | refine L3.s_isB ?_ | refine L3.s_nisN ?_ | refine L3.s_nisB ?_
  | ((with_reducible refine' L3.s_var ?e ?_); (case e => rfl))
  | ((with_reducible refine' L3.s_aug ?e ?_); (case e => rfl))
  | ((with_reducible refine' L3.s_pow ?c ?_); (case c => exact ⟨by decide, by decide, by decide⟩)))
local macro_rules | `(tactic| tm_at "s") => `(tactic| repeat tm_at "s1")
namespace K09
open PySem PySem.NumText PySem.Spec PyProof.Rows L2 L3 LamX RZ ClX ItX
abbrev s_Chunks___len__ : Stmt := inClass (topS 26) 11
theorem sc_Chunks___len__ : FnScope ["self"] ["self"] (defScope s_Chunks___len__) := ⟨rfl, rfl, rfl, by decide +kernel, rfl, by decide +kernel, by decide +kernel⟩
abbrev s_Chunks___iter__ : Stmt := inClass (topS 26) 12
theorem sc_Chunks___iter__ : FnScope ["self"] ["self"] (defScope s_Chunks___iter__) := ⟨rfl, rfl, rfl, by decide +kernel, rfl, by decide +kernel, by decide +kernel⟩
abbrev s_Chunks___contains__ : Stmt := inClass (topS 26) 13
theorem sc_Chunks___contains__ : FnScope ["self", "value"] ["self", "value"] (defScope s_Chunks___contains__) := ⟨rfl, rfl, rfl, by decide +kernel, rfl, by decide +kernel, by decide +kernel⟩
abbrev s_Chunks___getitem__ : Stmt := inClass (topS 26) 14
theorem sc_Chunks___getitem__ : FnScope ["self", "at", "sizes"] ["self", "at"] (defScope s_Chunks___getitem__) := ⟨rfl, rfl, rfl, by decide +kernel, rfl, by decide +kernel, by decide +kernel⟩
section
variable {P : Program} {w : World} {K : PySem.W.Frag} {mg : Str → Option Value} {base : Heap} {C CB CC CM CL CT CN CW : Addr}
def spLenC (C : Addr) : Sp := fun vs H Q _ => ∃ p ns, vs = [.ref p] ∧ Ck C H p ns ∧ Q (.int ((ns : List Int).length : Int)) H
theorem ok_len {f : Addr} {fd : FuncData} (F : Fun K "__len__" "Chunks.__len__" s_Chunks___len__ f fd) (T : Txt K mg C CB CC CM CL CT CN CW) : FnOk P w K mg base (L2.CX P w) 1 f fd ["self"] (spLenC C) := by
  refine funO F sc_Chunks___len__ (fun vs H Q E h => ?_) (fun cd A fr s H vs Q E hr h => ?_)
  · obtain ⟨p, ns, rfl, _⟩ := h; rfl
  · obtain ⟨p, ns, rfl, hc, k⟩ := h
    refine ⟨_, (pss_one (ps_ret (pe_callB (KX.callLen (K := K)) (by rfl) T.b_len (by decide +kernel) (pa_cons (KX.fld (K := K) rfl (pv 0) rfl) pa_nil)))), ?_⟩
    tm_at "s"
    obtain ⟨d1, u1, _, _, i1, h1, _⟩ := id hc
    refine ⟨p, C, d1, _, _, rfl, i1, T.c.cl, T.nS, rfl, ?_⟩
    tm_at "s"
    refine s_lenT h1 ?_
    rw [List.length_map]
    exact k
def spIsIS : Sp := fun vs H Q _ => ∃ sl lo hi st, vs = [.ref sl] ∧ H sl = some (SlO sl lo hi st) ∧ Q (.bl false) H
theorem ok_is_integerS {f : Addr} {fd : FuncData} (F : Fun K "is_integer" "is_integer" s_is_integer f fd) (T : Txt K mg C CB CC CM CL CT CN CW) : FnOk P w K mg base CX0 1 f fd ["value"] spIsIS := by
  refine funO F sc_is_integer (fun vs H Q E h => ?_) (fun cd A fr s H vs Q E hr h => ?_)
  · obtain ⟨x, _, _, _, rfl, _⟩ := h; rfl
  · obtain ⟨x, lo, hi, st, rfl, hs, k⟩ := h
    refine ⟨_, (pss_one (ps_ret (pe_and (pe_callB (callIsiS (K := K) rfl) (by rfl) T.b_isinstance (by decide +kernel) (pa_cons (pv 0) (pa_cons (pe_bltn (v := .ty "int") (u := .type "int") (by rfl) T.b_int (by decide +kernel) rfl) pa_nil))) (pe_one (pe_not (pe_callB (callIsiS (K := K) rfl) (by rfl) T.b_isinstance (by decide +kernel) (pa_cons (pv 0) (pa_cons (pe_bltn (v := .ty "bool") (u := .type "bool") (by rfl) T.b_bool (by decide +kernel) rfl) pa_nil)))))))), ?_⟩
    tm_at "s"
    refine ⟨x, lo, hi, st, "int", rfl, hs, kit_ty (by decide +kernel), ?_⟩
    tm_at "s"
    exact k
def spIterC (C : Addr) (n : Nat) : Sp := fun vs H Q _ => ∃ p ns, vs = [.ref p] ∧ Ck C H p ns ∧ ∀ t it, H t = some (.tup ((ns : List Int).map V.int)) → H it = none → n ≤ it → Q (.ref it) (upd H it (ItT t it))
theorem ok_iter {f : Addr} {fd : FuncData} (F : Fun K "__iter__" "Chunks.__iter__" s_Chunks___iter__ f fd) (T : Txt K mg C CB CC CM CL CT CN CW) (b_iter : mg "iter" = none) : FnN P w K mg base (L2.CX P w) 1 f fd ["self"] (spIterC C) := by
  refine funN F sc_Chunks___iter__ (fun n vs H Q E h => ?_) (fun cd A fr s H vs Q E hr h => ?_)
  · obtain ⟨p, ns, rfl, _⟩ := h; rfl
  · obtain ⟨p, ns, rfl, hc, k⟩ := h
    refine ⟨_, (pss_one (ps_ret (pe_callB (callIterT (K := K) rfl) (by rfl) b_iter (by decide +kernel) (pa_cons (KX.fld (K := K) rfl (pv 0) rfl) pa_nil)))), ?_⟩
    tm_at "s"
    obtain ⟨d1, u1, _, _, i1, h1, _⟩ := id hc
    refine ⟨p, C, d1, _, _, rfl, i1, T.c.cl, T.nS, rfl, ?_⟩
    tm_at "s"
    exact ⟨u1, _, rfl, .inl (.inl h1), fun it nit hn => k u1 it h1 nit hn⟩
def spContC (K : PySem.W.Frag) (C : Addr) : Sp := fun vs H Q _ => ∃ p y ns, vs = [.ref p, y] ∧ Ck C H p ns ∧ ((∃ i, y = .int i ∧ Q (.bl (decide (i ∈ (ns : List Int)))) H) ∨ (NI K H y ∧ Q (.bl false) H))
theorem ok_contains {f : Addr} {fd : FuncData} (F : Fun K "__contains__" "Chunks.__contains__" s_Chunks___contains__ f fd) (T : Txt K mg C CB CC CM CL CT CN CW) (c_is_integer : FnO P w K mg base CX0 1 "is_integer" ["value"] (spIsI2 K)) : FnOk P w K mg base (L2.CX P w) 2 f fd ["self", "value"] (spContC K C) := by
  refine funO F sc_Chunks___contains__ (fun vs H Q E h => ?_) (fun cd A fr s H vs Q E hr h => ?_)
  · obtain ⟨p, y, ns, rfl, _⟩ := h; rfl
  · obtain ⟨p, y, ns, rfl, hc, hy⟩ := h
    refine ⟨_, (pss_one (ps_ret (pe_and (pe_o c_is_integer hr pass0 (pa_cons (pv 1) pa_nil)) (pe_one (pe_cmpR (KX.opIn (K := K)) (pv 1) (KX.fld (K := K) rfl (pv 0) rfl) (by rfl)))))), ?_⟩
    tm_at "s"
    rcases hy with ⟨i, rfl, k⟩ | ⟨hni, k⟩
    · refine ⟨_, rfl, .inl ⟨i, rfl, ?_⟩⟩
      tm_at "s"
      obtain ⟨d1, u1, _, _, i1, h1, _⟩ := id hc
      refine ⟨p, C, d1, _, _, rfl, i1, T.c.cl, T.nS, rfl, ?_⟩
      refine s_inT (.inl (.inl h1)) rfl (List.all_eq_true.mpr fun x hx => by obtain ⟨n, _, rfl⟩ := List.mem_map.mp hx; rfl) ?_
      rw [inV_int]
      exact k
    · refine ⟨_, rfl, .inr ⟨hni, ?_⟩⟩
      tm_at "s"
      exact k
def spGetI (C CN : Addr) : Sp := fun vs H Q E => ∃ p i ns, vs = [.ref p, .int i] ∧ Ck C H p ns ∧ ((∃ n, 0 ≤ i ∧ (ns : List Int)[i.toNat]? = some n ∧ Q (.int n) H) ∨ (¬ (0 ≤ i ∧ i < (ns.length : Int)) ∧ Rz CN "at" (.int i) H E))
theorem ok_getI {f : Addr} {fd : FuncData} (F : Fun K "__getitem__" "Chunks.__getitem__" s_Chunks___getitem__ f fd) (T : Txt K mg C CB CC CM CL CT CN CW) (c_is_integer : FnO P w K mg base CX0 1 "is_integer" ["value"] (spIsI2 K)) (m_Chunks : McR P w K mg base (L2.CX P w) 5 "Chunks" C (spCk K C CB CM)) (e_NoChunk : Er1 P w K mg base "NoChunk" CN "at") :
    FnOk P w K mg base (L2.CX P w) 7 f fd ["self", "at"] (spGetI C CN) := by
  refine funO F sc_Chunks___getitem__ (fun vs H Q E h => ?_) (fun cd A fr s H vs Q E hr h => ?_)
  · obtain ⟨p, i, ns, rfl, _⟩ := h; rfl
  · obtain ⟨p, i, ns, rfl, hc, hy⟩ := h
    refine ⟨_, (pss_cons (ps_if (pt_not (pt_val (pe_o c_is_integer hr pass0 (pa_cons (pv 1) pa_nil)))) (pss_cons (ps_set (i := 2) sc_Chunks___getitem__.nd rfl (Or.inl rfl) (pe_ix (KX.ixU (K := K)) (KX.fld (K := K) rfl (pv 0) rfl) (pv 1) (fun _ _ => rfl)))
      (pss_one (ps_ret (pe_mkRS m_Chunks hr (passT (takes_of rfl rfl rfl rfl) (fun _ _ _ _ h => h)) (pv 2))))) pss_nil)
      (pss_cons (ps_if (pt_not (pt_chain op_le op_lt pe_int (pv 1) (pe_callB (KX.callLen (K := K)) (by rfl) T.b_len (by decide +kernel) (pa_cons (KX.fld (K := K) rfl (pv 0) rfl) pa_nil)))) (pss_one (ps_raise1 e_NoChunk hr rfl (takes_of rfl rfl rfl rfl) (pa_cons (pv 1) pa_nil))) pss_nil)
      (pss_one (ps_ret (pe_ix (KX.ixU (K := K)) (KX.fld (K := K) rfl (pv 0) rfl) (pv 1) (fun _ _ => rfl)))))), ?_⟩
    tm_at "s"
    refine ⟨_, rfl, .inl ⟨i, rfl, ?_⟩⟩
    tm_at "s"
    obtain ⟨d1, u1, _, _, i1, h1, _⟩ := id hc
    rcases hy with ⟨n, h0, hn, k⟩ | ⟨hno, rz⟩
    · have hl : i.toNat < ns.length := (List.getElem?_eq_some_iff.mp hn).1
      refine iteD (fun _ => ?_) (fun z => absurd h0 z)
      tm_at "s"
      refine ⟨p, C, d1, _, _, rfl, i1, T.c.cl, T.nS, rfl, ?_⟩
      tm_at "s"
      refine s_lenT h1 ?_
      rw [List.length_map]
      tm_at "s"
      refine iteND (fun z => absurd (show i < (ns.length : Int) by omega) z) (fun _ => ?_)
      tm_at "s"
      refine ⟨p, C, d1, _, _, rfl, i1, T.c.cl, T.nS, rfl, ?_⟩
      tm_at "s"
      exact s_iT (v := .int n) h1 (by rw [atI_int h0 (by rw [List.length_map]; omega), List.getElem?_map, hn]; rfl) k
    · refine iteD (fun z => ?_) (fun z => ?_)
      · tm_at "s"
        refine ⟨p, C, d1, _, _, rfl, i1, T.c.cl, T.nS, rfl, ?_⟩
        tm_at "s"
        refine s_lenT h1 ?_
        rw [List.length_map]
        tm_at "s"
        refine iteND (fun _ => ?_) (fun y => absurd ⟨z, y⟩ hno)
        tm_at "s"
        exact s_rz rz
      · tm_at "s"
        exact s_rz rz
def spGetS (C : Addr) : Sp := fun vs H Q _ => ∃ p sl ns lo hi st, vs = [.ref p, .ref sl] ∧ Ck C H p ns ∧ ns.length ≤ 5000 ∧ (∀ n ∈ ns, siz n) ∧ H sl = some (SlO sl lo hi st) ∧ st ≠ some 0 ∧ ∀ q H', Ex H H' → Ck C H' q (cut3 ns lo hi st) → Q (.ref q) H'
end
section
variable {P : Program} {w : World} {K : PySem.W.Frag} {mg : Str → Option Value} {base : Heap} {C CB CC CM CL CT CN CW : Addr}
theorem ok_getS {f : Addr} {fd : FuncData} (F : Fun K "__getitem__" "Chunks.__getitem__" s_Chunks___getitem__ f fd) (T : Txt K mg C CB CC CM CL CT CN CW) (c_is_integer : FnO P w K mg base CX0 1 "is_integer" ["value"] spIsIS) (m_Chunks : McR P w K mg base (L2.CX P w) 5 "Chunks" C (spCk K C CB CM)) (e_NoChunk : Er1 P w K mg base "NoChunk" CN "at") :
    FnOk P w K mg base (L2.CX P w) 7 f fd ["self", "at"] (spGetS C) := by
  refine funO F sc_Chunks___getitem__ (fun vs H Q E h => ?_) (fun cd A fr s H vs Q E hr h => ?_)
  · obtain ⟨p, sl, _, _, _, _, rfl, _⟩ := h; rfl
  · obtain ⟨p, sl, ns, lo, hi, st, rfl, hc, hl, hs, hsl, h0, k⟩ := h
    refine ⟨_, (pss_cons (ps_if (pt_not (pt_val (pe_o c_is_integer hr pass0 (pa_cons (pv 1) pa_nil)))) (pss_cons (ps_set (i := 2) sc_Chunks___getitem__.nd rfl (Or.inl rfl) (pe_ix ixSl (KX.fld (K := K) rfl (pv 0) rfl) (pv 1) (fun _ _ => rfl)))
      (pss_one (ps_ret (pe_mkRS m_Chunks hr (passT (takes_of rfl rfl rfl rfl) (fun _ _ _ _ h => h)) (pv 2))))) pss_nil)
      (pss_cons (ps_if (pt_not (pt_chain op_le op_lt pe_int (pv 1) (pe_callB (KX.callLen (K := K)) (by rfl) T.b_len (by decide +kernel) (pa_cons (KX.fld (K := K) rfl (pv 0) rfl) pa_nil)))) (pss_one (ps_raise1 e_NoChunk hr rfl (takes_of rfl rfl rfl rfl) (pa_cons (pv 1) pa_nil))) pss_nil)
      (pss_one (ps_ret (pe_ix ixSl (KX.fld (K := K) rfl (pv 0) rfl) (pv 1) (fun _ _ => rfl)))))), ?_⟩
    tm_at "s"
    refine ⟨sl, lo, hi, st, rfl, hsl, ?_⟩
    tm_at "s"
    obtain ⟨d1, u1, _, _, i1, h1, _⟩ := id hc
    refine ⟨p, C, d1, _, _, rfl, i1, T.c.cl, T.nS, rfl, ?_⟩
    tm_at "s"
    refine ⟨u1, sl, _, lo, hi, st, rfl, rfl, h1, hsl, h0, fun t H1 e1 ht => ?_⟩
    rw [cut3_map] at ht
    try dsimp only
    tm_at "s"
    refine ⟨t, _, rfl, .inl (.inl (.inl ht)), ?_⟩
    tm_at "s"
    rw [List.append_nil]
    have hlen := cut3_len ns lo hi st
    exact s_mkCk (CkTo.g (.inl ⟨by omega, fun q H' e c => k q H' (e1.trans e) c⟩) (by omega) (fun n hn => hs n (cut3_mem hn)))
end
end K09
end
section
local macro_rules | `(tactic| tm_at "s1") => `(tactic| first
  | with_reducible first
    | refine L3.s_seq ?_ | refine L3.s_asg ?_ | refine L3.s_op ?_ | refine L3.s_c ?_ | refine L3.s_cb ?_ | refine L3.s_cons ?_ | refine L3.s_nil ?_ | refine L3.s_test ?_ | refine L3.s_bl ?_
    | refine L3.s_I0 ?_ | refine L3.s_and ?_ | refine L3.s_or ?_ | refine L3.s_not ?_ | refine L3.s_if ?_ | refine L3.s_next ?_ | refine L3.s_ret ?_ | refine L3.s_retN ?_ | refine L3.s_asgS ?_ | refine L3.s_drop ?_
    | refine L3.s_un ?_ | refine L3.s_U ?_ | refine L3.s_int ?_ | refine L3.s_intB ?_ | refine L3.s_abs ?_ | refine L3.s_andV ?_ | refine L3.s_orV ?_ | refine L3.s_notV ?_ | refine L3.s_ifE ?_ | refine L3.s_call ?_ | refine L3.s_lst ?_ | refine L3.s_tup ?_ | refine L3.s_tB ?_
    | refine L3.s_addI ?_ | refine L3.s_inS ?_ | refine L3.s_ninS ?_ | refine L3.s_slice ?_ | refine L3.s_part ?_ | refine L3.s_partI ?_ | refine L3.s_nopart ?_ | refine L3.s_cI ?_ | refine L3.s_cB ?_ | refine L3.s_chain ?_ | refine L3.s_bm ?_ | refine L3.s_lcS ?_ | refine L3.s_lcR ?_ | refine L3.s_strE ?_
    | refine L2.iteT ?_ | refine L2.iteF ?_ | refine L3.iteNF ?_ | refine L3.iteNT ?_
    | refine L3.s_eqI ?_ | refine L3.s_neI ?_ | refine L3.s_eqS ?_ | refine L3.s_neS ?_
    | refine L3.s_pair ?_ | refine L3.s_pair2 ?_ | refine L3.s_fld ?_ | refine L3.s_make ?_ | refine L3.s_m1 ?_ | refine L3.s_isstr ?_
    | refine L3.s_xfV ?_ | refine L3.s_lstN ?_ | refine L3.s_callF ?_ | refine L3.s_lcL ?_ | refine L3.s_par3 ?_ | refine L3.s_trip ?_ | refine L3.s_asgT' ?_ | refine L3.s_gC ?_ | refine L3.s_gN ?_ | refine L3.s_fldG ?_ | refine L3.s_raise1 ?_ | refine L3.s_raise2 ?_ | refine L3.s_star ?_ | refine L3.s_mkCR ?_ | refine L3.s_lcZ ?_ | refine L3.s_forL ?_ | refine L3.s_forT ?_ | refine L3.s_gNm ?_ | refine L3.s_forE ?_ | refine L3.s_stC ?_ | refine L3.s_cmC ?_ | refine L3.s_forR1 ?_ | refine L3.s_lcTp ?_ | refine L3.s_forZ ?_ | refine L3.s_orT ?_ | refine L3.s_mt ?_ | refine L3.s_revT ?_ | refine L3.s_revL ?_ | refine L3.s_slOwn ?_ | refine L3.s_sl3 ?_ | refine L3.s_lcO ?_ | refine L3.s_stR ?_
    | refine L3.s_isN ?_ | refine L3.s_isB ?_ | refine L3.s_nisN ?_ | refine L3.s_nisB ?_
  | ((with_reducible refine' L3.s_var ?e ?_); (case e => rfl))
  | ((with_reducible refine' L3.s_aug ?e ?_); (case e => rfl))
  | ((with_reducible refine' L3.s_pow ?c ?_); (case c => exact ⟨by decide, by decide, by decide⟩)))
local macro_rules | `(tactic| tm_at "s") => `(tactic| repeat tm_at "s1")
namespace K09
open PySem PySem.NumText PySem.Spec PyProof.Rows L2 L3 LamX RZ ClX ItX
abbrev s__law_made : Stmt := topS 34
theorem sc__law_made : FnScope ["_law_pen_here", "_law_sizes_here"] ["_law_pen_here", "_law_sizes_here"] (defScope s__law_made) := ⟨rfl, rfl, rfl, by decide +kernel, rfl, by decide +kernel, by decide +kernel⟩
abbrev s__law_parts_right : Stmt := topS 35
abbrev names__law_parts_right : List Str := ["_law_made_here", "_law_sizes_here", "_law_ends", "_law_rests", "_law_total", "_law_size", "_law_spot"]
theorem sc__law_parts_right : FnScope ["_law_made_here", "_law_sizes_here", "_law_ends", "_law_rests", "_law_total", "_law_size", "_law_spot"] ["_law_made_here", "_law_sizes_here"] (defScope s__law_parts_right) := ⟨rfl, rfl, rfl, by decide +kernel, rfl, by decide +kernel, by decide +kernel⟩
section
variable {P : Program} {w : World} {K : PySem.W.Frag} {mg : Str → Option Value} {base : Heap} {C CB CC CM CL CT CN CW : Addr}
theorem bl_len (b : Bool) : (PyData.bool b).shown.length ≤ sizeLine := by cases b <;> decide +kernel
def spMade (C : Addr) : Sp := fun vs H Q _ => ∃ p l n ns, vs = [.ref p, .ref l] ∧ Pen H p n ∧ n + 100 < lim ∧ H l = some (.lst ((ns : List Int).map V.int)) ∧ (∀ x ∈ ns, siz x) ∧ ns.length ≤ 8 ∧
  ∀ q H' m, m ≤ n + 5 → (∀ b o, b ≠ p → H b = some o → H' b = some o) → Pen H' p m → Ck C H' q ns → Q (.ref q) H'
theorem ok_made {f : Addr} {fd : FuncData} (F : Fun K "_law_made" "_law_made" s__law_made f fd) (T : Txt K mg C CB CC CM CL CT CN CW)
    (c__law_draw : Fn P w K mg base CX0 1 "_law_draw" ["_law_pen_here", "_law_many"] spDraw) (st_of : StM P w K mg base (L2.CX P w) 7 C "of" ["sizes"] (spOf K C CB CC CM)) (m_Chunks : McR P w K mg base (L2.CX P w) 5 "Chunks" C (spCk K C CB CM)) :
    FnG P w K mg base CX0 9 f fd ["_law_pen_here", "_law_sizes_here"] (spMade C) := by
  refine funG F sc__law_made (fun vs H Q E h => ?_) (fun cd A fr s H vs Q E hr hg h => ?_)
  · obtain ⟨p, l, n, ns, rfl, _⟩ := h; rfl
  · obtain ⟨p, l, n, ns, rfl, hp, hlim, hl, hs, hn, kq⟩ := h
    refine ⟨_, (Evl.pss_cut (ps_if (PW.pt (pw_and (pt_cmpR (KX.eqU (K := K) rfl hr.units) (pe_callB (KX.callLen (K := K)) (by rfl) T.b_len (by decide +kernel) (pa_cons (pv 1) pa_nil)) pe_int (nomark _)) (pw_and1 (pt_cmpR (KX.eqU (K := K) rfl hr.units) (pe_f c__law_draw hr hg pass0 (pa_cons (pv 0) (pa_cons pe_int pa_nil))) pe_int (nomark _))))) (pss_one (ps_ret (pe_mkR0 m_Chunks hr passF))) pss_nil)
      (Evl.pss_cut (ps_if (PW.pt (pw_and (pt_cmpR (KX.eqU (K := K) rfl hr.units) (pe_callB (KX.callLen (K := K)) (by rfl) T.b_len (by decide +kernel) (pa_cons (pv 1) pa_nil)) pe_int (nomark _)) (pw_and1 (pt_cmpR (KX.eqU (K := K) rfl hr.units) (pe_f c__law_draw hr hg pass0 (pa_cons (pv 0) (pa_cons pe_int pa_nil))) pe_int (nomark _))))) (pss_one (ps_ret (pe_mkR m_Chunks hr passF (pa_cons (pe_ix (KX.ixU (K := K)) (pv 1) pe_int (fun _ _ => rfl)) pa_nil)))) pss_nil)
      (Evl.pss_cut (ps_if (PW.pt (pw_and (pt_cmpR (KX.eqU (K := K) rfl hr.units) (pe_callB (KX.callLen (K := K)) (by rfl) T.b_len (by decide +kernel) (pa_cons (pv 1) pa_nil)) pe_int (nomark _)) (pw_and1 (pt_cmpR (KX.eqU (K := K) rfl hr.units) (pe_f c__law_draw hr hg pass0 (pa_cons (pv 0) (pa_cons pe_int pa_nil))) pe_int (nomark _))))) (pss_one (ps_ret (pe_mkR m_Chunks hr passF (pa_cons (pe_ix (KX.ixU (K := K)) (pv 1) pe_int (fun _ _ => rfl)) (pa_cons (pe_ix (KX.ixU (K := K)) (pv 1) pe_int (fun _ _ => rfl)) (pa_cons (pe_ix (KX.ixU (K := K)) (pv 1) pe_int (fun _ _ => rfl)) pa_nil)))))) pss_nil)
      (pss_one (ps_ret (pe_ifExp (pt_cmpR (KX.eqU (K := K) rfl hr.units) (pe_f c__law_draw hr hg pass0 (pa_cons (pv 0) (pa_cons pe_int pa_nil))) pe_int (nomark _)) (pe_st st_of hr passF (C8.pe_gc (by rfl) T.g_Chunks) (pa_cons (pv 1) pa_nil)) (pe_stk st_of hr passF (C8.pe_gc (by rfl) T.g_Chunks) (pk_cons (pe_callTy call_tuple_of (by rfl) T.b_tuple (by decide +kernel) (pa_cons (pv 1) pa_nil)) pk_nil)))))))), ?_⟩
    have cg : ∀ (E : XK) (H2 : Hp) (xs : List Int), xs = ns → (∀ q H3, Ex H2 H3 → Ck C H3 q ns → Q (.ref q) H3) → CkG K CB CM H2 (xs.map V.int) (fun ns => ∀ q H', H2 q = none → Ex H2 H' → Ck C H' q ns → Q (.ref q) H') E := fun E H2 xs e kk => by
      subst e
      exact CkTo.g (.inl ⟨by omega, fun r H' e c => kk r H' e c⟩) (by omega) hs
    have give : ∀ H1 m, m ≤ n + 4 → (∀ b o, b ≠ p → H b = some o → H1 b = some o) → Pen H1 p m → ∀ q H3, Ex H1 H3 → Ck C H3 q ns → Q (.ref q) H3 := fun H1 m hm k1 p1 q H3 e3 c3 =>
      kq q H3 m (by omega) (fun b o hb h => e3 _ _ (k1 b o hb h)) (p1.ex e3) c3
    refine s_cut (M := fun σ' H' => σ' = [some (.ref p), some (.ref l)] ∧ ∃ m, m ≤ n + 1 ∧ (∀ b o, b ≠ p → H b = some o → H' b = some o) ∧ Pen H' p m) ?_ ?_
    · tm_at "s"
      refine s_lenL hl ?_
      rw [List.length_map]
      tm_at "s"
      refine iteD (fun hz => ?_) (fun hz => ?_)
      · tm_at "s"
        refine ⟨p, n, 2, rfl, by decide, by decide +kernel, hp, by omega, fun d H1 d0 d1 p1 k1 => ?_⟩
        tm_at "s"
        refine iteD (fun _ => ?_) (fun _ => ?_)
        · tm_at "s"
          have e : ns = [] := by cases ns with | nil => rfl | cons a b => simp at hz; omega
          exact s_mkCk (cg _ H1 [] e.symm (give H1 (n + 1) (by omega) k1 p1))
        · tm_at "s"
          exact ⟨rfl, n + 1, by omega, k1, p1⟩
      · tm_at "s"
        exact ⟨rfl, n, by omega, fun _ _ _ h => h, hp⟩
    rintro _ H1 ⟨rfl, m1, hm1, k1, p1⟩
    refine s_cut (M := fun σ' H' => σ' = [some (.ref p), some (.ref l)] ∧ ∃ m, m ≤ n + 2 ∧ (∀ b o, b ≠ p → H b = some o → H' b = some o) ∧ Pen H' p m) ?_ ?_
    · have l1 := lst_keep hl hp k1
      tm_at "s"
      refine s_lenL l1 ?_
      rw [List.length_map]
      tm_at "s"
      refine iteD (fun hz => ?_) (fun hz => ?_)
      · tm_at "s"
        refine ⟨p, m1, 2, rfl, by decide, by decide +kernel, p1, by omega, fun d H2 d0 d1 p2 k2 => ?_⟩
        have k02 : ∀ b o, b ≠ p → H b = some o → H2 b = some o := fun b o hb h => k2 b o hb (k1 b o hb h)
        have l2 := lst_keep hl hp k02
        tm_at "s"
        refine iteD (fun _ => ?_) (fun _ => ?_)
        · obtain ⟨x, e⟩ : ∃ x, ns = [x] := by
            match ns, hz with
            | [x], _ => exact ⟨x, rfl⟩
          tm_at "s"
          refine s_iL (v := .int x) l2 (by rw [e]; rfl) ?_
          tm_at "s"
          exact s_mkCk (cg _ H2 [x] e.symm (give H2 (m1 + 1) (by omega) k02 p2))
        · tm_at "s"
          exact ⟨rfl, m1 + 1, by omega, k02, p2⟩
      · tm_at "s"
        exact ⟨rfl, m1, by omega, k1, p1⟩
    clear k1 p1 hm1
    rintro _ H1 ⟨rfl, m1, hm1, k1, p1⟩
    refine s_cut (M := fun σ' H' => σ' = [some (.ref p), some (.ref l)] ∧ ∃ m, m ≤ n + 3 ∧ (∀ b o, b ≠ p → H b = some o → H' b = some o) ∧ Pen H' p m) ?_ ?_
    · have l1 := lst_keep hl hp k1
      tm_at "s"
      refine s_lenL l1 ?_
      rw [List.length_map]
      tm_at "s"
      refine iteD (fun hz => ?_) (fun hz => ?_)
      · tm_at "s"
        refine ⟨p, m1, 2, rfl, by decide, by decide +kernel, p1, by omega, fun d H2 d0 d1 p2 k2 => ?_⟩
        have k02 : ∀ b o, b ≠ p → H b = some o → H2 b = some o := fun b o hb h => k2 b o hb (k1 b o hb h)
        have l2 := lst_keep hl hp k02
        tm_at "s"
        refine iteD (fun _ => ?_) (fun _ => ?_)
        · obtain ⟨x, y, z, e⟩ : ∃ x y z, ns = [x, y, z] := by
            match ns, hz with
            | [x, y, z], _ => exact ⟨x, y, z, rfl⟩
          tm_at "s"
          refine s_iL (v := .int x) l2 (by rw [e]; rfl) ?_
          tm_at "s"
          refine s_iL (v := .int y) l2 (by rw [e]; rfl) ?_
          tm_at "s"
          refine s_iL (v := .int z) l2 (by rw [e]; rfl) ?_
          tm_at "s"
          exact s_mkCk (cg _ H2 [x, y, z] e.symm (give H2 (m1 + 1) (by omega) k02 p2))
        · tm_at "s"
          exact ⟨rfl, m1 + 1, by omega, k02, p2⟩
      · tm_at "s"
        exact ⟨rfl, m1, by omega, k1, p1⟩
    clear k1 p1 hm1
    rintro _ H1 ⟨rfl, m1, hm1, k1, p1⟩
    tm_at "s"
    refine ⟨p, m1, 2, rfl, by decide, by decide +kernel, p1, by omega, fun d H2 d0 d1 p2 k2 => ?_⟩
    have k02 : ∀ b o, b ≠ p → H b = some o → H2 b = some o := fun b o hb h => k2 b o hb (k1 b o hb h)
    have l2 := lst_keep hl hp k02
    tm_at "s"
    refine iteD (fun _ => ?_) (fun _ => ?_)
    · tm_at "s"
      exact ⟨_, rfl, .inl ⟨l, _, rfl, .inl l2, by rw [List.length_map]; omega, .inl ⟨ns, rfl, hs, .inl ⟨by omega, fun q H3 e3 c3 => give H2 (m1 + 1) (by omega) k02 p2 q H3 e3 c3⟩⟩⟩⟩
    · tm_at "s"
      refine ⟨l, _, rfl, .inl ⟨.inl (.inl l2), fun t ht => ?_⟩⟩
      have e3 : Ex _ _ := ex_new (o := .tup (ns.map V.int)) ht
      have h3 : (upd H2 t (.tup (ns.map V.int))) t = some (.tup (ns.map V.int)) := upd_same
      generalize upd H2 t (.tup (ns.map V.int)) = H3 at e3 h3 ⊢
      tm_at "s"
      exact ⟨_, rfl, .inl ⟨t, _, rfl, .inr h3, by rw [List.length_map]; omega, .inl ⟨ns, rfl, hs, .inl ⟨by omega, fun q H4 e4 c4 => give H2 (m1 + 1) (by omega) k02 p2 q H4 (e3.trans e4) c4⟩⟩⟩⟩
def spParts (C : Addr) : Sp := fun vs H Q _ => ∃ q l ns, vs = [.ref q, .ref l] ∧ Ck C H q ns ∧ H l = some (.lst ((ns : List Int).map V.int)) ∧ (∀ x ∈ ns, siz x) ∧ ns.length ≤ 8 ∧ ∀ H', Ex H H' → Q (.bl true) H'
theorem ok_parts {f : Addr} {fd : FuncData} (F : Fun K "_law_parts_right" "_law_parts_right" s__law_parts_right f fd) (T : Txt K mg C CB CC CM CL CT CN CW)
    (me_len : Me P w K mg base C "__len__" 1 ["self"] (spLenC C)) (nb : PySem.W.findIn K (.ref C) "__bool__" = some none) (it_own : OwnIt P w K mg base C 1 (spIterC C)) :
    FnG P w K mg base CX0 9 f fd ["_law_made_here", "_law_sizes_here"] (spParts C) := by
  refine funG F sc__law_parts_right (fun vs H Q E h => ?_) (fun cd A fr s H vs Q E hr hg h => ?_)
  · obtain ⟨q, l, ns, rfl, _⟩ := h; rfl
  · obtain ⟨q, l, ns, rfl, hc, hl, hs, hn, kq⟩ := h
    refine ⟨_, (pss_cons (ps_par3 (by rfl) sc__law_parts_right.nd (i := 2) (j := 3) (l := 4) rfl rfl rfl (by decide) (by decide) (by decide) rfl rfl rfl (pa_cons (pe_lst pa_nil) (pa_cons (pe_lst pa_nil) (pa_cons pe_int pa_nil))) (by rfl))
      (pss_cons (ps_for (passes_of rfl) rfl (pi_list (pv 1)) (pg_name (i := 5) sc__law_parts_right.nd rfl (Or.inl rfl)) (pss_cons (ps_set (i := 4) sc__law_parts_right.nd rfl (Or.inl rfl) (pe_op opAdd (pv 4) (pv 5)))
      (pss_one (ps_expr (pe_bm PySem.F.plainAttrs_list PySem.F.slot_list_append PySem.F.type_list_append mt_append (pv 2) (pa_cons (pv 4) pa_nil))))))
      (pss_cons (ps_for (passes_of rfl) rfl (pi_range1 (by rfl) T.b_range (pa_cons (pe_callB (KX.callLen (K := K)) (by rfl) T.b_len (by decide +kernel) (pa_cons (pv 1) pa_nil)) pa_nil)) (pg_name (i := 6) sc__law_parts_right.nd rfl (Or.inl rfl)) (pss_one (ps_expr (pe_bm PySem.F.plainAttrs_list PySem.F.slot_list_append PySem.F.type_list_append mt_append (pv 3) (pa_cons (pe_op opAdd (pe_op op_sub (pv 4) (pe_ix (KX.ixU (K := K)) (pv 2) (pv 6) (fun _ _ => rfl))) (pe_ix (KX.ixU (K := K)) (pv 1) (pv 6) (fun _ _ => rfl))) pa_nil)))))
      (pss_cons (ps_if (pt_cmpR (KX.neU (K := K) rfl hr.units) (pe_lst (pa_cons (KX.fld (K := K) rfl (pv 0) rfl) (pa_cons (KX.fld (K := K) rfl (pv 0) rfl) (pa_cons (KX.fld (K := K) rfl (pv 0) rfl) (pa_cons (KX.fld (K := K) rfl (pv 0) rfl) pa_nil))))) (pe_lst (pa_cons (pe_callTy call_tuple_of (by rfl) T.b_tuple (by decide +kernel) (pa_cons (pv 1) pa_nil)) (pa_cons (pv 4) (pa_cons (pe_callTy call_tuple_of (by rfl) T.b_tuple (by decide +kernel) (pa_cons (pv 2) pa_nil)) (pa_cons (pe_callTy call_tuple_of (by rfl) T.b_tuple (by decide +kernel) (pa_cons (pv 3) pa_nil)) pa_nil))))) (nomark _)) (pss_one (ps_ret pe_bl)) pss_nil)
      (pss_one (ps_ret (pe_and (pe_cmpR (KX.eqU (K := K) rfl hr.units) (pe_callB (callLenOwn me_len hr passF) (by rfl) T.b_len (by decide +kernel) (pa_cons (pv 0) pa_nil)) (pe_callB (KX.callLen (K := K)) (by rfl) T.b_len (by decide +kernel) (pa_cons (pv 1) pa_nil)) (nomark _)) (pe_and (pe_cmpR (KX.eqU (K := K) rfl hr.units) (pe_lc (own := [("_law_size", 5)]) (g := gName 5) (tt := tYes) (by rfl) sc__law_parts_right.nd (pi_own (K := K) rfl it_own hr passF (pv 0)) (blkOk_by (own := [("_law_size", 5)]) (N := names__law_parts_right) (sc := defScope s__law_parts_right) (by decide +kernel)) (fun _ _ _ _ _ => pg_name (i := 5) sc__law_parts_right.nd rfl (Or.inl rfl)) (fun _ _ _ _ _ => pts_nil) (fun _ _ _ _ _ => (pv 5))) (pv 1) (nomark _)) (pe_one (pe_cmpR (KX.eqU (K := K) rfl hr.units) (pe_callB (KX.callRepr (K := K) rfl hg hr.units) (by rfl) T.b_repr (by decide +kernel) (pa_cons (pe_callTy (callBoolLen me_len nb hr passF) (by rfl) T.b_bool (by decide +kernel) (pa_cons (pv 0) pa_nil)) pa_nil)) (pe_callB (KX.callRepr (K := K) rfl hg hr.units) (by rfl) T.b_repr (by decide +kernel) (pa_cons (pe_cmpR (KX.neU (K := K) rfl hr.units) (pv 1) (pe_lst pa_nil) (nomark _)) pa_nil)) (nomark _))))))))))), ?_⟩
    tm_at "s"
    refine s_new (Nat.le_of_lt (small1000 (by simp))) fun le H1 n1 e1 h1 => ?_
    tm_at "s"
    refine s_new (Nat.le_of_lt (small1000 (by simp))) fun lr H2 n2 e2 h2 => ?_
    try dsimp only
    tm_at "s"
    have l2 := e2 _ _ (e1 _ _ hl)
    have le2 := e2 _ _ h1
    have nel : l ≠ le := ne_of_none hl n1
    have nler : le ≠ lr := ne_of_none h1 n2
    have nlr : l ≠ lr := ne_of_none (e1 _ _ hl) n2
    refine s_fL l2 (fun j σ H' => ∃ v5 v6, σ = [some (.ref q), some (.ref l), some (.ref le), some (.ref lr), some (.int (ns.take j).sum), v5, v6] ∧ H' le = some (.lst ((endsOf (ns.take j)).map V.int)) ∧ (∀ b o, b ≠ le → H2 b = some o → H' b = some o)) ⟨_, _, rfl, le2, fun _ _ _ h => h⟩ (fun j σ H' ⟨_, _, _, _, kk⟩ => kk _ _ nel l2) ?_ ?_
    · rintro j x _ H3 hx ⟨v5, v6, rfl, h3, k3⟩
      obtain ⟨n', hn', rfl⟩ := get_int hx
      have hj : j < ns.length := (List.getElem?_eq_some_iff.mp hn').1
      refine s_gNm ?_
      try dsimp only
      tm_at "s"
      refine s_tyL h3 ?_
      tm_at "s"
      refine s_app h3 (sz_of (by rw [List.length_map, endsOf_len, List.length_take]; omega)) ?_
      refine ⟨_, _, by rw [take_snoc hn', List.sum_append, List.sum_cons, List.sum_nil, Int.add_zero]; rfl, ?_, fun b o hb h => by rw [upd_ne hb]; exact k3 b o hb h⟩
      rw [upd_same, take_snoc hn', endsOf_snoc, List.map_append]; rfl
    rintro _ H3 ⟨v5, v6, rfl, h3, k3⟩
    rw [List.length_map, List.take_length] at h3 ⊢
    have l3 := k3 _ _ nel l2
    have lr3 := k3 _ _ (Ne.symm nler) h2
    have e3 : Ex H H3 := fun b o h => k3 b o (ne_of_none h n1) (e2 _ _ (e1 _ _ h))
    try dsimp only
    tm_at "s"
    refine s_lenL l3 ?_
    rw [List.length_map]
    tm_at "s"
    refine ⟨by omega, by omega, ?_⟩
    have nlr0 : ∀ {b : Addr} {o : HO}, H b = some o → b ≠ lr := fun {b o} h => ne_of_none (e1 _ _ h) n2
    refine forRg (n := ((ns.length : Int)).toNat) (fun j σ H' => ∃ v5 v6, σ = [some (.ref q), some (.ref l), some (.ref le), some (.ref lr), some (.int ns.sum), v5, v6] ∧ H' lr = some (.lst (((restsOf ns).take j).map V.int)) ∧ (∀ b o, b ≠ lr → H3 b = some o → H' b = some o)) ⟨_, _, rfl, lr3, fun _ _ _ h => h⟩ ?_ ?_
    · rintro j _ H4 hj ⟨v5, v6, rfl, h4, k4⟩
      have hj' : j < ns.length := by omega
      have le4 := k4 _ _ nler h3
      have l4 := k4 _ _ nlr l3
      have ge : (endsOf ns)[j]? = some ((endsOf ns).getD j 0) := by rw [List.getD_eq_getElem?_getD, List.getElem?_eq_getElem (by rw [endsOf_len]; exact hj')]; rfl
      have gn : ns[j]? = some (ns.getD j 0) := by rw [List.getD_eq_getElem?_getD, List.getElem?_eq_getElem hj']; rfl
      refine s_gNm ?_
      try dsimp only
      tm_at "s"
      refine s_tyL h4 ?_
      rw [Int.zero_add]
      tm_at "s"
      refine s_iL (v := .int ((endsOf ns).getD j 0)) le4 (L3.atI_nat (by rw [List.getElem?_map, ge]; rfl)) ?_
      tm_at "s"
      refine s_iL (v := .int (ns.getD j 0)) l4 (L3.atI_nat (by rw [List.getElem?_map, gn]; rfl)) ?_
      tm_at "s"
      have hrl : (restsOf ns).length = ns.length := by unfold restsOf; rw [List.length_map, List.length_range]
      refine s_app h4 (sz_of (by rw [List.length_map, List.length_take]; omega)) ?_
      refine ⟨_, _, rfl, ?_, fun b o hb h => by rw [upd_ne hb]; exact k4 b o hb h⟩
      have gr : (restsOf ns)[j]? = some (ns.sum - (endsOf ns).getD j 0 + ns.getD j 0) := by unfold restsOf; rw [List.getElem?_map, List.getElem?_range hj']; rfl
      rw [upd_same, take_snoc gr, List.map_append]; rfl
    rintro _ H4 ⟨v5, v6, rfl, h4, k4⟩
    have hrl : (restsOf ns).length = ns.length := by unfold restsOf; rw [List.length_map, List.length_range]
    rw [show ((ns.length : Int)).toNat = (restsOf ns).length by omega, List.take_length] at h4
    have e4 : Ex H H4 := fun b o h => k4 b o (nlr0 h) (e3 _ _ h)
    have le4 := k4 _ _ nler h3
    have l4 := e4 _ _ hl
    obtain ⟨dx, t1, t2, t3, i4, u1, u2, u3⟩ := id (hc.ex e4)
    clear k4 k3 h3 l3 lr3 e3 h2 le2 l2 h1 e1 e2
    try dsimp only
    tm_at "s"
    refine ⟨q, C, dx, _, _, rfl, i4, T.c.cl, T.nS, rfl, ?_⟩
    tm_at "s"
    refine ⟨q, C, dx, _, _, rfl, i4, T.c.cl, T.nT, rfl, ?_⟩
    tm_at "s"
    refine ⟨q, C, dx, _, _, rfl, i4, T.c.cl, T.nE, rfl, ?_⟩
    tm_at "s"
    refine ⟨q, C, dx, _, _, rfl, i4, T.c.cl, T.nR, rfl, ?_⟩
    tm_at "s"
    refine s_new (Nat.le_of_lt (small1000 (by simp))) fun A1 H5 n5 e5 h5 => ?_
    tm_at "s"
    refine ⟨l, _, rfl, .inl ⟨.inl (.inl (e5 _ _ l4)), fun x1 hx1 => ?_⟩⟩
    have e6 : Ex _ _ := ex_new (o := .tup (ns.map V.int)) hx1
    have h6 : (upd H5 x1 (.tup (ns.map V.int))) x1 = some (.tup (ns.map V.int)) := upd_same
    generalize upd H5 x1 (.tup (ns.map V.int)) = H6 at e6 h6 ⊢
    tm_at "s"
    refine ⟨le, _, rfl, .inl ⟨.inl (.inl (e6 _ _ (e5 _ _ le4))), fun x2 hx2 => ?_⟩⟩
    have e7 : Ex _ _ := ex_new (o := .tup ((endsOf ns).map V.int)) hx2
    have h7 : (upd H6 x2 (.tup ((endsOf ns).map V.int))) x2 = some (.tup ((endsOf ns).map V.int)) := upd_same
    generalize upd H6 x2 (.tup ((endsOf ns).map V.int)) = H7 at e7 h7 ⊢
    tm_at "s"
    refine ⟨lr, _, rfl, .inl ⟨.inl (.inl (e7 _ _ (e6 _ _ (e5 _ _ h4)))), fun x3 hx3 => ?_⟩⟩
    have e8 : Ex _ _ := ex_new (o := .tup ((restsOf ns).map V.int)) hx3
    have h8 : (upd H7 x3 (.tup ((restsOf ns).map V.int))) x3 = some (.tup ((restsOf ns).map V.int)) := upd_same
    generalize upd H7 x3 (.tup ((restsOf ns).map V.int)) = H8 at e8 h8 ⊢
    tm_at "s"
    refine s_new (Nat.le_of_lt (small1000 (by simp))) fun A2 H9 n9 e9 h9 => ?_
    have e49 := e5.trans (e6.trans (e7.trans (e8.trans e9)))
    have e59 := e6.trans (e7.trans (e8.trans e9))
    refine .inr (s_neD (.lst (.inl (.inl (e59 _ _ h5))) (.cons (dpTup (e49 _ _ u1)) (.cons (.int _) (.cons (dpTup (e49 _ _ u2)) (.cons (dpTup (e49 _ _ u3)) .nil)))))
      (.lst (.inl (.inl h9)) (.cons (dpTup (e9 _ _ (e8 _ _ (e7 _ _ h6)))) (.cons (.int _) (.cons (dpTup (e9 _ _ (e8 _ _ h7))) (.cons (dpTup (e9 _ _ h8)) .nil))))) (shMix ns (endsOf ns) (restsOf ns) ns.sum) (shMix ns (endsOf ns) (restsOf ns) ns.sum) ?_)
    rw [SeqAt.eqv_refl _ (SeqAt.canLay_of_shaped (shMix ns (endsOf ns) (restsOf ns) ns.sum))]
    have c9 := (hc.ex e4).ex e49
    have l9 := e49 _ _ l4
    have e09 := e4.trans e49
    clear e49 e59 h9 h8 h7 h6 h5 e5 e6 e7 e8 e9 u1 u2 u3 i4 h4 le4 l4
    obtain ⟨dx, t1, t2, t3, i9, u1, _⟩ := id c9
    tm_at "s"
    refine ⟨q, dx, _, rfl, i9, q, _, rfl, c9, _, rfl, by omega, by omega, ?_⟩
    tm_at "s"
    refine s_lenL l9 ?_
    rw [List.length_map]
    tm_at "s"
    refine iteD (fun _ => ?_) (fun z => absurd rfl z)
    tm_at "s"
    refine ⟨q, dx, _, rfl, i9, fun nn => ⟨q, ns, rfl, c9, fun t it ht nit hnn => ⟨it, t, rfl, upd_same, hnn, ?_⟩⟩⟩
    rw [dropH_upd nit]
    refine lcTI (fun _ => true) (fun i => .int (ns.getD i 0)) ht (by rw [List.length_map]; exact sz_of (by omega)) (fun _ => rfl) (fun i x H1 R hx e r => r) (fun i x H1 R hx _ e r => ?_) fun D H10 nD e10 hD => ?_
    · obtain ⟨n', hn', rfl⟩ := get_int hx
      have e1' : ns.getD i 0 = n' := by rw [List.getD_eq_getElem?_getD, hn']; rfl
      rw [e1'] at r
      tm_at "s"
      exact r _ (Ex.refl _)
    rw [range_true, List.length_map, range_map ns 0 (fun n => V.int n)] at hD
    tm_at "s"
    refine .inr (s_eqD (.lst (.inl (.inl hD)) (dpInts _)) (.lst (.inl (.inl (e10 _ _ l9))) (dpInts _)) (shInts _) (shInts _) ?_)
    rw [SeqAt.eqv_refl _ (SeqAt.canLay_of_shaped (shInts _))]
    have c10 := c9.ex e10
    obtain ⟨dx', _, _, _, i10, _⟩ := id c10
    tm_at "s"
    refine ⟨q, dx', _, rfl, i10, q, ns, rfl, c10, _, rfl, by omega, by omega, ?_⟩
    tm_at "s"
    refine s_reprG (x := .bool ((ns.length : Int) != 0)) (.bl _) rfl (Nat.zero_le _) (bl_len _) ?_
    tm_at "s"
    refine s_new (Nat.le_of_lt (small1000 (by simp))) fun l11 H11 n11 e11 h11 => ?_
    refine .inr (s_neD (.lst (.inl (.inl (e11 _ _ (e10 _ _ l9)))) (dpInts _)) (.lst (.inl (.inl h11)) (dpInts (K := K) [])) (shInts _) (shInts []) ?_)
    tm_at "s"
    refine s_reprG (x := .bool (!PyData.eqv (.list (ns.map PyData.int)) (.list (([] : List Int).map PyData.int)))) (.bl _) rfl (Nat.zero_le _) (bl_len _) ?_
    have hb : ((ns.length : Int) != 0) = !PyData.eqv (.list (ns.map PyData.int)) (.list (([] : List Int).map PyData.int)) := by
      cases ns with
      | nil => rfl
      | cons a b => 
        rw [show PyData.eqv (.list ((a :: b).map PyData.int)) (.list (([] : List Int).map PyData.int)) = false from rfl]
        simp
        omega
    rw [hb]
    tm_at "s"
    rw [decide_eq_true rfl]
    exact kq H11 (e09.trans (e10.trans e11))
end
end K09
end
section
local macro_rules | `(tactic| tm_at "s1") => `(tactic| first
  | with_reducible first
    | refine L3.s_seq ?_ | refine L3.s_asg ?_ | refine L3.s_op ?_ | refine L3.s_c ?_ | refine L3.s_cb ?_ | refine L3.s_cons ?_ | refine L3.s_nil ?_ | refine L3.s_test ?_ | refine L3.s_bl ?_
    | refine L3.s_I0 ?_ | refine L3.s_and ?_ | refine L3.s_or ?_ | refine L3.s_not ?_ | refine L3.s_if ?_ | refine L3.s_next ?_ | refine L3.s_ret ?_ | refine L3.s_retN ?_ | refine L3.s_asgS ?_ | refine L3.s_drop ?_
    | refine L3.s_un ?_ | refine L3.s_U ?_ | refine L3.s_int ?_ | refine L3.s_intB ?_ | refine L3.s_abs ?_ | refine L3.s_andV ?_ | refine L3.s_orV ?_ | refine L3.s_notV ?_ | refine L3.s_ifE ?_ | refine L3.s_call ?_ | refine L3.s_lst ?_ | refine L3.s_tup ?_ | refine L3.s_tB ?_
    | refine L3.s_addI ?_ | refine L3.s_inS ?_ | refine L3.s_ninS ?_ | refine L3.s_slice ?_ | refine L3.s_part ?_ | refine L3.s_partI ?_ | refine L3.s_nopart ?_ | refine L3.s_cI ?_ | refine L3.s_cB ?_ | refine L3.s_chain ?_ | refine L3.s_bm ?_ | refine L3.s_lcS ?_ | refine L3.s_lcR ?_ | refine L3.s_strE ?_
    | refine L2.iteT ?_ | refine L2.iteF ?_ | refine L3.iteNF ?_ | refine L3.iteNT ?_
    | refine L3.s_eqI ?_ | refine L3.s_neI ?_ | refine L3.s_eqS ?_ | refine L3.s_neS ?_
    | refine L3.s_pair ?_ | refine L3.s_pair2 ?_ | refine L3.s_fld ?_ | refine L3.s_make ?_ | refine L3.s_m1 ?_ | refine L3.s_isstr ?_
    | refine L3.s_xfV ?_ | refine L3.s_lstN ?_ | refine L3.s_callF ?_ | refine L3.s_lcL ?_ | refine L3.s_par3 ?_ | refine L3.s_trip ?_ | refine L3.s_asgT' ?_ | refine L3.s_gC ?_ | refine L3.s_gN ?_ | refine L3.s_fldG ?_ | refine L3.s_raise1 ?_ | refine L3.s_raise2 ?_ | refine L3.s_star ?_ | refine L3.s_mkCR ?_ | refine L3.s_lcZ ?_ | refine L3.s_forL ?_ | refine L3.s_forT ?_ | refine L3.s_gNm ?_ | refine L3.s_forE ?_ | refine L3.s_stC ?_ | refine L3.s_cmC ?_ | refine L3.s_forR1 ?_ | refine L3.s_lcTp ?_ | refine L3.s_forZ ?_ | refine L3.s_orT ?_ | refine L3.s_mt ?_ | refine L3.s_revT ?_ | refine L3.s_revL ?_ | refine L3.s_slOwn ?_ | refine L3.s_sl3 ?_ | refine L3.s_lcO ?_ | refine L3.s_stR ?_
    | refine L3.s_isN ?_ | refine L3.s_isB ?_ | refine L3.s_nisN ?_ | refine L3.s_nisB ?_
  | ((with_reducible refine' L3.s_var ?e ?_); (case e => rfl))
  | ((with_reducible refine' L3.s_aug ?e ?_); (case e => rfl))
  | ((with_reducible refine' L3.s_pow ?c ?_); (case c => exact ⟨by decide, by decide, by decide⟩)))
local macro_rules | `(tactic| tm_at "s") => `(tactic| repeat tm_at "s1")
namespace K09
open PySem PySem.NumText PySem.Spec PyProof.Rows L2 L3 LamX RZ ClX ItX
abbrev s__law_asked_right : Stmt := topS 36
abbrev names__law_asked_right : List Str := ["_law_pen_here", "_law_made_here", "_law_sizes_here", "_law_many", "_law_odd", "_law_low", "_law_high", "_law_step", "_law_cuts", "_law_due", "_law_far", "_law_size", "_law_spot", "_law_part"]
theorem sc__law_asked_right : FnScope ["_law_pen_here", "_law_made_here", "_law_sizes_here", "_law_many", "_law_odd", "_law_low", "_law_high", "_law_step", "_law_cuts", "_law_due", "_law_far", "_law_size", "_law_spot", "_law_part"] ["_law_pen_here", "_law_made_here", "_law_sizes_here"] (defScope s__law_asked_right) := ⟨rfl, rfl, rfl, by decide +kernel, rfl, by decide +kernel, by decide +kernel⟩
abbrev lamQ1 : Str := (("_law_asked_right" : Str) ++ ".<locals>.") ++ "<lambda>"
section
variable {P : Program} {w : World} {K : PySem.W.Frag} {mg : Str → Option Value} {base : Heap} {C CB CC CM CL CT CN CW : Addr}
theorem s_inOwnF {H : Hp} {Q : VK} {E : XK} {q : Addr} {ns : List Int} {v : V} (h : Ck C H q ns) (o : NI K H v ∨ ∃ i, v = .int i ∧ i ∉ ns) (k : Q (.bl false) H) : rInOwn C (spContC K C) E false v (.ref q) H Q := by
  obtain ⟨dx, _, _, _, i, _⟩ := id h
  refine ⟨q, dx, _, rfl, i, q, v, ns, rfl, h, ?_⟩
  rcases o with o | ⟨i, rfl, hi⟩
  · exact .inr ⟨o, false, rfl, k⟩
  · exact .inl ⟨i, rfl, _, rfl, by rw [decide_eq_false hi]; exact k⟩
theorem s_inOwnI {H : Hp} {Q : VK} {E : XK} {q : Addr} {ns : List Int} {i : Int} (h : Ck C H q ns) (k : Q (.bl (decide (i ∈ ns))) H) : rInOwn C (spContC K C) E false (.int i) (.ref q) H Q := by
  obtain ⟨dx, _, _, _, ii, _⟩ := id h
  exact ⟨q, dx, _, rfl, ii, q, _, ns, rfl, h, .inl ⟨i, rfl, _, rfl, by rw [Bool.xor_false]; exact k⟩⟩
theorem s_ninOwnI {H : Hp} {Q : VK} {E : XK} {q : Addr} {ns : List Int} {i : Int} (h : Ck C H q ns) (k : Q (.bl (!decide (i ∈ ns))) H) : rInOwn C (spContC K C) E true (.int i) (.ref q) H Q := by
  obtain ⟨dx, _, _, _, ii, _⟩ := id h
  exact ⟨q, dx, _, rfl, ii, q, _, ns, rfl, h, .inl ⟨i, rfl, _, rfl, by rw [Bool.xor_true]; exact k⟩⟩
theorem s_slC {H : Hp} {Q : VK} {E : XK} {q : Addr} {ns : List Int} {lo hi st : Option Int} (h : Ck C H q ns) (hl : ns.length ≤ 5000) (hs : ∀ n ∈ ns, siz n) (h0 : st ≠ some 0) (k : ∀ r H', Ex H H' → Ck C H' r (cut3 ns lo hi st) → Q (.ref r) H') :
    ∃ a dx fs, V.ref q = .ref a ∧ H a = some (.ins C dx fs) ∧ ∀ sl, H sl = none → spGetS C [.ref q, .ref sl] (upd H sl (SlO sl lo hi st)) Q E := by
  obtain ⟨dx, _, _, _, ii, _⟩ := id h
  exact ⟨q, dx, _, rfl, ii, fun sl nsl => ⟨q, sl, ns, lo, hi, st, rfl, h.ex (ex_new nsl), hl, hs, upd_same, h0, fun r H' e c => k r H' (Ex.trans (ex_new nsl) e) c⟩⟩
def spAsk (Tt : List (Addr × Str)) (C : Addr) : Sp := fun vs H Q _ => ∃ p q l n ns, vs = [.ref p, .ref q, .ref l] ∧ Wo Tt H p n ∧ n + 100 < lim ∧ Ck C H q ns ∧ H l = some (.lst ((ns : List Int).map V.int)) ∧ (∀ x ∈ ns, siz x) ∧ ns.length ≤ 8 ∧
  ∀ H' m, m ≤ n + 10 → Wo Tt H' p m → (∀ b o, b ≠ p → H b = some o → (∀ ps, o ≠ .tbl ps) → H' b = some o) → Q (.bl true) H'
theorem ok_asked {f c Pt : Addr} {fd : FuncData} (F : FunC K "_law_asked_right" "_law_asked_right" s__law_asked_right c f fd) (TB : TabB base mg c Pt) {Tt : List (Addr × Str)} (hmT : (Pt, lamQ1) ∈ Tt) (huT : ∀ p ∈ Tt, p.1 = Pt → p.2 = lamQ1) (T : Txt K mg C CB CC CM CL CT CN CW) (F5 : Kit5 K CB CC CM CT CN) (FH : HeF K mg)
    (c__law_draw : Fn P w K mg base CX0 1 "_law_draw" ["_law_pen_here", "_law_many"] spDraw) (c__law_pick : Fn P w K mg base CX0 2 "_law_pick" ["_law_pen_here", "_law_some"] spPick)
    (me_cont : Me P w K mg base C "__contains__" 2 ["self", "value"] (spContC K C)) (get_i : GetM P w K mg base C 7 ["self", "at"] (spGetI C CN)) (get_s : GetM P w K mg base C 7 ["self", "at"] (spGetS C)) :
    FnG P w K mg base CX0 14 f fd ["_law_pen_here", "_law_made_here", "_law_sizes_here"] (spAsk Tt C) := by
  refine funGC F sc__law_asked_right (fun vs H Q E h => ?_) (fun A fr s H vs Q E hr hg h => ?_)
  · obtain ⟨p, q, l, n, ns, rfl, _⟩ := h; rfl
  · obtain ⟨p, q, l, n, ns, rfl, W, hlim, hc, hl, hs, hn, kq⟩ := h
    refine ⟨_, (pss_cons (ps_set (i := 3) sc__law_asked_right.nd rfl (Or.inl rfl) (pe_callB (KX.callLen (K := K)) (by rfl) T.b_len (by decide +kernel) (pa_cons (pv 2) pa_nil)))
      (pss_cons (ps_set (i := 4) sc__law_asked_right.nd rfl (Or.inl rfl) (pe_f c__law_pick hr hg pass0 (pa_cons (pv 0) (pa_cons (pe_lst (pa_cons pe_non (pa_cons pe_bl (pa_cons pe_bl (pa_cons pe_str (pa_cons (pe_tup (pa_cons pe_int pa_nil)) (pa_cons (pe_lst (pa_cons pe_int pa_nil)) (pa_cons pe_dnewK (pa_cons pe_int (pa_cons (pe_un un_neg pe_int) (pa_cons (pe_op op_pow pe_int pe_int) pa_nil))))))))))) pa_nil))))
      (pss_cons (ps_if (PW.pt (pw_or (pt_cmpR (opInOwn (ps := []) me_cont hr passF) (pv 4) (pv 1) (by rfl)) (pw_or (pt_cmpR (KX.neU (K := K) rfl hr.units) (pe_lc (own := [("_law_size", 11)]) (g := gName 11) (by rfl) sc__law_asked_right.nd (pi_list (pv 2)) (blkOk_by (own := [("_law_size", 11)]) (N := names__law_asked_right) (sc := defScope s__law_asked_right) (by decide +kernel)) (fun _ _ _ _ _ => pg_name (i := 11) sc__law_asked_right.nd rfl (Or.inl rfl)) (fun _ _ _ _ _ => pts_one (pt_cmpR (opNotInOwn (ps := []) me_cont hr passF) (pv 11) (pv 1) (by rfl))) (fun _ _ _ _ _ => (pv 11))) (pe_lst pa_nil) (nomark _)) (pw_or1 (pt_cmpR (KX.neU (K := K) rfl hr.units) (pe_callB (KX.callRepr (K := K) rfl hg hr.units) (by rfl) T.b_repr (by decide +kernel) (pa_cons (pe_cmpR (opInOwn (ps := []) me_cont hr passF) pe_int (pv 1) (by rfl)) pa_nil)) (pe_callB (KX.callRepr (K := K) rfl hg hr.units) (by rfl) T.b_repr (by decide +kernel) (pa_cons (pe_cmpR (KX.opIn (K := K)) pe_int (pv 2) (by rfl)) pa_nil)) (nomark _)))))) (pss_one (ps_ret pe_bl)) pss_nil)
      (pss_cons (ps_if (pt_cmpR (KX.neU (K := K) rfl hr.units) (pe_lc (own := [("_law_spot", 12)]) (g := gName 12) (tt := tYes) (by rfl) sc__law_asked_right.nd (pi_range1 (by rfl) T.b_range (pa_cons (pv 3) pa_nil)) (blkOk_by (own := [("_law_spot", 12)]) (N := names__law_asked_right) (sc := defScope s__law_asked_right) (by decide +kernel)) (fun _ _ _ _ _ => pg_name (i := 12) sc__law_asked_right.nd rfl (Or.inl rfl)) (fun _ _ _ _ _ => pts_nil) (fun _ _ _ _ _ => (pe_ixOwn get_i hr passF (pv 1) (pv 12)))) (pv 2) (nomark _)) (pss_one (ps_ret pe_bl)) pss_nil)
      (pss_cons (ps_par (by rfl) sc__law_asked_right.nd (i := 5) (j := 6) rfl rfl (by decide) rfl rfl (pa_cons (pe_op op_sub (pe_f c__law_draw hr hg pass0 (pa_cons (pv 0) (pa_cons pe_int pa_nil))) pe_int) (pa_cons (pe_op op_sub (pe_f c__law_draw hr hg pass0 (pa_cons (pv 0) (pa_cons pe_int pa_nil))) pe_int) pa_nil)) (by rfl))
      (pss_cons (ps_set (i := 7) sc__law_asked_right.nd rfl (Or.inl rfl) (pe_f c__law_pick hr hg pass0 (pa_cons (pv 0) (pa_cons (pe_lst (pa_cons pe_int (pa_cons pe_int (pa_cons pe_int (pa_cons (pe_un un_neg pe_int) (pa_cons (pe_un un_neg pe_int) pa_nil)))))) pa_nil))))
      (pss_cons (ps_set (i := 8) sc__law_asked_right.nd rfl (Or.inl rfl) (pe_lst (pa_cons (pe_slOwn get_s hr passF (pv 1) (po_some (pv 5)) (po_some (pv 6)) po_none) (pa_cons (pe_slOwn get_s hr passF (pv 1) (po_some (pv 5)) po_none po_none) (pa_cons (pe_slOwn get_s hr passF (pv 1) po_none (po_some (pv 6)) po_none) (pa_cons (pe_slOwn get_s hr passF (pv 1) (po_some (pv 5)) (po_some (pv 6)) (po_some (pv 7))) (pa_cons (pe_slOwn get_s hr passF (pv 1) po_none po_none (po_some (pv 7))) (pa_cons (pe_slOwn get_s hr passF (pv 1) po_none po_none po_none) pa_nil))))))))
      (pss_cons (ps_set (i := 9) sc__law_asked_right.nd rfl (Or.inl rfl) (pe_lst (pa_cons (KX.sl3 (K := K) rfl (pv 2) (po_some (pv 5)) (po_some (pv 6)) po_none) (pa_cons (KX.sl3 (K := K) rfl (pv 2) (po_some (pv 5)) po_none po_none) (pa_cons (KX.sl3 (K := K) rfl (pv 2) po_none (po_some (pv 6)) po_none) (pa_cons (KX.sl3 (K := K) rfl (pv 2) (po_some (pv 5)) (po_some (pv 6)) (po_some (pv 7))) (pa_cons (KX.sl3 (K := K) rfl (pv 2) po_none po_none (po_some (pv 7))) (pa_cons (pv 2) pa_nil))))))))
      (pss_cons (ps_if (PW.pt (pw_or (pt_cmpR (KX.neU (K := K) rfl hr.units) (pe_lc (own := [("_law_part", 13)]) (g := gName 13) (tt := tYes) (by rfl) sc__law_asked_right.nd (pi_list (pv 8)) (blkOk_by (own := [("_law_part", 13)]) (N := names__law_asked_right) (sc := defScope s__law_asked_right) (by decide +kernel)) (fun _ _ _ _ _ => pg_name (i := 13) sc__law_asked_right.nd rfl (Or.inl rfl)) (fun _ _ _ _ _ => pts_nil) (fun _ _ _ _ _ => (pe_callTy (KX.callList (K := K) rfl rfl) (by rfl) T.b_list (by decide +kernel) (pa_cons (KX.fld (K := K) rfl (pv 13) rfl) pa_nil)))) (pv 9) (nomark _)) (pw_or1 (pt_cmpR (KX.neU (K := K) rfl hr.units) (pe_lc (own := [("_law_part", 13)]) (g := gName 13) (by rfl) sc__law_asked_right.nd (pi_list (pv 8)) (blkOk_by (own := [("_law_part", 13)]) (N := names__law_asked_right) (sc := defScope s__law_asked_right) (by decide +kernel)) (fun _ _ _ _ _ => pg_name (i := 13) sc__law_asked_right.nd rfl (Or.inl rfl)) (fun _ _ _ _ _ => pts_one (pt_not (pt_val (pe_callB (KX.callIsi (K := K)) (by rfl) T.b_isinstance (by decide +kernel) (pa_cons (pv 13) (pa_cons (C8.pe_gc (by rfl) T.g_Chunks) pa_nil)))))) (fun _ _ _ _ _ => (pv 13))) (pe_lst pa_nil) (nomark _))))) (pss_one (ps_ret pe_bl)) pss_nil)
      (pss_cons (ps_set (i := 10) sc__law_asked_right.nd rfl (Or.inr rfl) (pe_f c__law_pick hr hg pass0 (pa_cons (pv 0) (pa_cons (pe_lst (pa_cons (pv 3) (pa_cons (pe_un un_neg pe_int) (pa_cons (pe_op opAdd (pv 3) pe_int) (pa_cons (pe_op op_sub (pe_un un_neg (pv 3)) pe_int) (pa_cons (pe_op op_pow pe_int pe_int) pa_nil)))))) pa_nil))))
      (pss_one (ps_ret (pe_cmpR (KX.eqU (K := K) rfl hr.units) (pe__law_heard FH T F5 TB hg hr hmT huT (lamS_by (sc := defScope s__law_asked_right) (by decide +kernel)) (fun A outer s H E f c' hr' => (pe_ixOwn get_i hr' (passT (takes_of rfl rfl rfl rfl) (fun _ _ _ _ h => h)) (pv 1) (pv 10)))) (pe_tup (pa_cons pe_str (pa_cons (pe_callB (KX.callRepr (K := K) rfl hg hr.units) (by rfl) T.b_repr (by decide +kernel) (pa_cons (pv 10) pa_nil)) pa_nil))) (nomark _)))))))))))))), ?_⟩
    tm_at "s"
    refine s_lenL hl ?_
    rw [List.length_map]
    try dsimp only
    tm_at "s"
    refine s_new (Nat.le_of_lt (small1000 (by simp))) fun ta H1 n1 e1 h1 => ?_
    tm_at "s"
    refine s_new (Nat.le_of_lt (small1000 (by simp))) fun la H2 n2 e2 h2 => ?_
    tm_at "s"
    refine s_dnew fun dd H3 n3 e3 h3 => ?_
    tm_at "s"
    refine s_new (Nat.le_of_lt (small1000 (by simp))) fun z1 H4 n4 e4 h4 => ?_
    have E4 := e1.trans (e2.trans (e3.trans e4))
    have W4 := W.ex E4
    refine ⟨p, z1, n, _, rfl, h4, by simp, by simp, W4.pen, by omega, fun v1 H5 hv1 p5 k5 => ?_⟩
    have W5 := W4.keep p5 k5
    have c5 := (hc.ex E4).keep W4.pen k5
    have l5 := lst_keep (E4 _ _ hl) W4.pen k5
    have ta5 := tup_keep (e4 _ _ (e3 _ _ (e2 _ _ h1))) W4.pen k5
    have la5 := lst_keep (e4 _ _ (e3 _ _ h2)) W4.pen k5
    have dd5 := dk_keep (e4 _ _ h3) W4.pen k5
    have K5 : ∀ b o, b ≠ p → H b = some o → H5 b = some o := fun b o hb h => k5 b o hb (E4 _ _ h)
    have bad : ∀ i : Int, ¬ siz i → i ∉ ns := fun i hi hm => hi (hs i hm)
    have o1 : NI K H5 v1 ∨ ∃ i, v1 = .int i ∧ i ∉ ns := by
      simp only [List.mem_cons, List.not_mem_nil, or_false] at hv1
      rcases hv1 with rfl | rfl | rfl | rfl | rfl | rfl | rfl | rfl | rfl | rfl
      · exact .inl (.inr ⟨_, .x (.base .non), kit_ty (by decide +kernel)⟩)
      · exact .inl (.inl ⟨_, rfl⟩)
      · exact .inl (.inl ⟨_, rfl⟩)
      · exact .inl (.inr ⟨_, .x (.base (.str _)), kit_ty (by decide +kernel)⟩)
      · exact .inl (.inr ⟨_, .x (.base (.tup ta5)), kit_ty (by decide +kernel)⟩)
      · exact .inl (.inr ⟨_, .x (.base (.lst la5)), kit_ty (by decide +kernel)⟩)
      · exact .inl (.inr ⟨_, .x (.base (.dK dd5)), kit_ty (by decide +kernel)⟩)
      · exact .inr ⟨_, rfl, bad _ (by unfold siz; decide)⟩
      · exact .inr ⟨_, rfl, bad _ (by unfold siz; decide)⟩
      · exact .inr ⟨_, rfl, bad _ (by unfold siz; decide +kernel)⟩
    clear hv1 dd5 la5 ta5 k5 h4 h3 h2 h1 E4 W4 e1 e2 e3 e4 n1 n2 n3 n4
    try dsimp only
    tm_at "s"
    refine s_inOwnF c5 o1 ?_
    tm_at "s"
    refine ⟨l, rfl, ⟨_, .inl (.inl l5)⟩, lcLI (fun _ => false) (fun _ => .non) l5 (by rw [List.length_map]; exact sz_of (by omega)) (fun _ => rfl) (fun i x H6 R hx e r => ?_) (fun i x H6 R hx hb e r => nomatch hb) fun D H6 nD e6 hD => ?_⟩
    · obtain ⟨n', hn', rfl⟩ := get_int hx
      tm_at "s"
      refine s_ninOwnI (c5.ex e) ?_
      rw [decide_eq_true (List.mem_of_getElem? hn')]
      tm_at "s"
      exact r
    rw [filt_no] at hD
    tm_at "s"
    refine s_new (Nat.le_of_lt (small1000 (by simp))) fun z2 H7 n7 e7 h7 => ?_
    refine .inr (s_neD (.lst (.inl (.inl (e7 _ _ hD))) (dpInts (K := K) [])) (.lst (.inl (.inl h7)) (dpInts (K := K) [])) (shInts []) (shInts []) ?_)
    rw [SeqAt.eqv_refl _ (SeqAt.canLay_of_shaped (shInts []))]
    tm_at "s"
    have E7 := e6.trans e7
    refine s_inOwnI (c5.ex E7) ?_
    tm_at "s"
    refine s_reprG (x := .bool (decide (5 ∈ ns))) (.bl _) rfl (Nat.zero_le _) (bl_len _) ?_
    tm_at "s"
    refine s_inL (E7 _ _ l5) rfl (List.all_eq_true.mpr fun x hx => by obtain ⟨n, _, rfl⟩ := List.mem_map.mp hx; rfl) ?_
    rw [inV_int]
    tm_at "s"
    refine s_reprG (x := .bool (decide (5 ∈ ns))) (.bl _) rfl (Nat.zero_le _) (bl_len _) ?_
    tm_at "s"
    refine iteND (fun z => absurd rfl z) (fun _ => ?_)
    tm_at "s"
    have c7 := c5.ex E7
    have l7 := E7 _ _ l5
    refine ⟨by omega, by omega, lcR2 (fun i => .int (ns.getD i 0)) (Nat.lt_of_le_of_lt (show ((ns.length : Int)).toNat ≤ 100000 by omega) (by decide)) (fun _ => rfl) (fun i H8 R hi e8 r => ?_) fun D2 H8 nD2 e8 hD2 => ?_⟩
    · have c8 := c7.ex e8
      obtain ⟨dx, _, _, _, i8, _⟩ := id c8
      have hi' : i < ns.length := by omega
      tm_at "s"
      refine ⟨q, dx, _, rfl, i8, q, _, ns, rfl, c8, .inl ⟨ns.getD i 0, by omega, ?_, r _ (Ex.refl _)⟩⟩
      rw [show (0 + (i : Int)).toNat = i by omega, List.getD_eq_getElem?_getD, List.getElem?_eq_getElem hi']; rfl
    rw [show ((ns.length : Int)).toNat = ns.length by omega, range_map ns 0 (fun n => V.int n)] at hD2
    tm_at "s"
    refine .inr (s_neD (.lst (.inl (.inl hD2)) (dpInts _)) (.lst (.inl (.inl (e8 _ _ l7))) (dpInts _)) (shInts _) (shInts _) ?_)
    rw [SeqAt.eqv_refl _ (SeqAt.canLay_of_shaped (shInts _))]
    tm_at "s"
    have W8 := W5.ex (E7.trans e8)
    have c8 := c7.ex e8
    have l8 := e8 _ _ l7
    have K8 : ∀ b o, b ≠ p → H b = some o → H8 b = some o := fun b o hb h => e8 _ _ (E7 _ _ (K5 b o hb h))
    clear hD2 nD2 l7 c7 e8 E7 h7 e7 n7 hD nD e6 o1 K5 c5 l5 W5
    refine ⟨p, n + 1, 12, rfl, by decide, by decide +kernel, W8.pen, by omega, fun d1 H9 d10 d11 p9 k9 => ?_⟩
    have W9 := W8.keep p9 k9
    have c9 := c8.keep W8.pen k9
    have l9 := lst_keep l8 W8.pen k9
    have K9 : ∀ b o, b ≠ p → H b = some o → H9 b = some o := fun b o hb h => k9 b o hb (K8 b o hb h)
    tm_at "s"
    refine ⟨p, n + 1 + 1, 12, rfl, by decide, by decide +kernel, W9.pen, by omega, fun d2 H10 d20 d21 p10 k10 => ?_⟩
    have W10 := W9.keep p10 k10
    have c10 := c9.keep W9.pen k10
    have l10 := lst_keep l9 W9.pen k10
    have K10 : ∀ b o, b ≠ p → H b = some o → H10 b = some o := fun b o hb h => k10 b o hb (K9 b o hb h)
    try dsimp only
    tm_at "s"
    refine s_new (Nat.le_of_lt (small1000 (by simp))) fun z3 H11 n11 e11 h11 => ?_
    have W11 := W10.ex e11
    refine ⟨p, z3, n + 1 + 1 + 1, _, rfl, h11, by simp, by simp, W11.pen, by omega, fun v3 H12 hv3 p12 k12 => ?_⟩
    have W12 := W11.keep p12 k12
    have c12 := (c10.ex e11).keep W11.pen k12
    have l12 := lst_keep (e11 _ _ l10) W11.pen k12
    have K12 : ∀ b o, b ≠ p → H b = some o → H12 b = some o := fun b o hb h => k12 b o hb (e11 _ _ (K10 b o hb h))
    obtain ⟨st, rfl, hst⟩ : ∃ st : Int, v3 = .int st ∧ (some st : Option Int) ≠ some 0 := by
      simp only [List.mem_cons, List.not_mem_nil, or_false] at hv3
      rcases hv3 with rfl | rfl | rfl | rfl | rfl <;> exact ⟨_, rfl, by decide⟩
    generalize hm : n + 1 + 1 + 1 + 1 = m at W12
    clear hv3 k12 p12 h11 e11 n11 W11 W10 c10 l10 K10 k10 p10 K9 k9 p9 W9 c9 l9 K8 W8 c8 l8
    generalize d1 - 3 = lo
    generalize d2 - 3 = hi
    try dsimp only
    tm_at "s"
    have hn' : ns.length ≤ 5000 := by omega
    have nn : (none : Option Int) ≠ some 0 := fun z => nomatch z
    refine s_slC c12 hn' hs nn fun r1 G1 f1 b1 => ?_
    tm_at "s"
    refine s_slC (c12.ex f1) hn' hs nn fun r2 G2 f2 b2 => ?_
    have f02 := f1.trans f2
    tm_at "s"
    refine s_slC (c12.ex f02) hn' hs nn fun r3 G3 f3 b3 => ?_
    have f03 := f02.trans f3
    tm_at "s"
    refine s_slC (c12.ex f03) hn' hs hst fun r4 G4 f4 b4 => ?_
    have f04 := f03.trans f4
    tm_at "s"
    refine s_slC (c12.ex f04) hn' hs hst fun r5 G5 f5 b5 => ?_
    have f05 := f04.trans f5
    tm_at "s"
    refine s_slC (c12.ex f05) hn' hs nn fun r6 G6 f6 b6 => ?_
    rw [cut3_all] at b6
    have f06 := f05.trans f6
    tm_at "s"
    refine s_new (Nat.le_of_lt (small1000 (by simp))) fun cu G7 n7 f7 h7 => ?_
    have f07 := f06.trans f7
    have W7 := W12.ex f07
    have l7 := f07 _ _ l12
    have c7 := c12.ex f07
    have a1 := b1.ex (f2.trans (f3.trans (f4.trans (f5.trans (f6.trans f7)))))
    have a2 := b2.ex (f3.trans (f4.trans (f5.trans (f6.trans f7))))
    have a3 := b3.ex (f4.trans (f5.trans (f6.trans f7)))
    have a4 := b4.ex (f5.trans (f6.trans f7))
    have a5 := b5.ex (f6.trans f7)
    have a6 := b6.ex f7
    have K7 : ∀ b o, b ≠ p → H b = some o → G7 b = some o := fun b o hb h => f07 _ _ (K12 b o hb h)
    clear b1 b2 b3 b4 b5 b6 f1 f2 f3 f4 f5 f6 f7 f02 f03 f04 f05 f06 f07 W12 l12 c12 K12
    try dsimp only
    tm_at "s"
    refine s_sl3L l7 nn fun y1 J1 g1 j1 => ?_
    tm_at "s"
    refine s_sl3L (g1 _ _ l7) nn fun y2 J2 g2 j2 => ?_
    have g02 := g1.trans g2
    tm_at "s"
    refine s_sl3L (g02 _ _ l7) nn fun y3 J3 g3 j3 => ?_
    have g03 := g02.trans g3
    tm_at "s"
    refine s_sl3L (g03 _ _ l7) hst fun y4 J4 g4 j4 => ?_
    have g04 := g03.trans g4
    tm_at "s"
    refine s_sl3L (g04 _ _ l7) hst fun y5 J5 g5 j5 => ?_
    have g05 := g04.trans g5
    tm_at "s"
    refine s_new (Nat.le_of_lt (small1000 (by simp))) fun du J6 n6 g6 j6 => ?_
    have g06 := g05.trans g6
    rw [cut3_map] at j1 j2 j3 j4 j5
    have due : LsAt J6 [y1, y2, y3, y4, y5, l] [cut3 ns (some lo) (some hi) none, cut3 ns (some lo) none none, cut3 ns none (some hi) none, cut3 ns (some lo) (some hi) (some st), cut3 ns none none (some st), ns] :=
      ⟨g6 _ _ (g5 _ _ (g4 _ _ (g3 _ _ (g2 _ _ j1)))), g6 _ _ (g5 _ _ (g4 _ _ (g3 _ _ j2))), g6 _ _ (g5 _ _ (g4 _ _ j3)), g6 _ _ (g5 _ _ j4), g6 _ _ j5, g06 _ _ l7, trivial⟩
    have hcu := g06 _ _ h7
    have hck : ∀ (i : Nat) (x : V) (mm : List Int), ([.ref r1, .ref r2, .ref r3, .ref r4, .ref r5, .ref r6] : List V)[i]? = some x → [cut3 ns (some lo) (some hi) none, cut3 ns (some lo) none none, cut3 ns none (some hi) none, cut3 ns (some lo) (some hi) (some st), cut3 ns none none (some st), ns][i]? = some mm → ∃ r, x = .ref r ∧ Ck C J6 r mm := by
      intro i x mm h1 h2
      match i, h1, h2 with
      | 0, h1, h2 => exact ⟨r1, (Option.some.inj h1).symm, (Option.some.inj h2) ▸ a1.ex g06⟩
      | 1, h1, h2 => exact ⟨r2, (Option.some.inj h1).symm, (Option.some.inj h2) ▸ a2.ex g06⟩
      | 2, h1, h2 => exact ⟨r3, (Option.some.inj h1).symm, (Option.some.inj h2) ▸ a3.ex g06⟩
      | 3, h1, h2 => exact ⟨r4, (Option.some.inj h1).symm, (Option.some.inj h2) ▸ a4.ex g06⟩
      | 4, h1, h2 => exact ⟨r5, (Option.some.inj h1).symm, (Option.some.inj h2) ▸ a5.ex g06⟩
      | 5, h1, h2 => exact ⟨r6, (Option.some.inj h1).symm, (Option.some.inj h2) ▸ a6.ex g06⟩
      | i + 6, h1, h2 => cases h1
    have W6 := W7.ex g06
    have c6 := c7.ex g06
    have K6 : ∀ b o, b ≠ p → H b = some o → J6 b = some o := fun b o hb h => g06 _ _ (K7 b o hb h)
    clear a1 a2 a3 a4 a5 a6 j1 j2 j3 j4 j5 g1 g2 g3 g4 g5 g6 g02 g03 g04 g05 W7 c7 K7 l7
    generalize [cut3 ns (some lo) (some hi) none, cut3 ns (some lo) none none, cut3 ns none (some hi) none, cut3 ns (some lo) (some hi) (some st), cut3 ns none none (some st), ns] = nss at due hck
    have hlen : 6 = nss.length := due.len
    try dsimp only
    tm_at "s"
    refine ⟨cu, rfl, ⟨_, .inl (.inl hcu)⟩, lcLists nss hcu hlen (small1000 (by simp)) (fun _ => rfl) (fun i x mm H1 R hx hmm e r => ?_) fun D H1 qs nD e1 hD hLs => ?_⟩
    · obtain ⟨rr, rfl, hcr⟩ := hck i x mm hx hmm
      have hcr := hcr.ex e
      obtain ⟨dx, t1, _, _, i1, u1, _⟩ := id hcr
      tm_at "s"
      refine ⟨rr, C, dx, _, _, rfl, i1, T.c.cl, T.nS, rfl, ?_⟩
      tm_at "s"
      exact s_listT u1 fun l2 H2 n2 e2 h2 => r l2 H2 n2 e2 h2
    tm_at "s"
    refine .inr (s_neD (.lst (.inl (.inl hD)) hLs.dp) (.lst (.inl (.inl (e1 _ _ j6))) (due.imp fun q _ n h => e1 _ _ h).dp) (shLists nss) (shLists nss) ?_)
    rw [SeqAt.eqv_refl _ (SeqAt.canLay_of_shaped (shLists nss))]
    tm_at "s"
    have hcu1 := e1 _ _ hcu
    refine ⟨cu, rfl, ⟨_, .inl (.inl hcu1)⟩, lcLI (fun _ => false) (fun _ => .non) hcu1 (small1000 (by simp)) (fun _ => rfl) (fun i x H2 R hx e r => ?_) (fun i x H6 R hx hb e r => nomatch hb) fun D2 H2 nD2 e2 hD2 => ?_⟩
    · obtain ⟨mm, hmm⟩ : ∃ mm, nss[i]? = some mm := ⟨_, List.getElem?_eq_getElem (by have := (List.getElem?_eq_some_iff.mp hx).1; simp at this; omega)⟩
      obtain ⟨rr, rfl, hcr⟩ := hck i x mm hx hmm
      have hcr := hcr.ex (e1.trans e)
      obtain ⟨dx, t1, _, _, i1, u1, _⟩ := id hcr
      tm_at "s"
      refine s_isiC (T.c.ty i1) T.c.kC ?_
      tm_at "s"
      exact r
    rw [filt_no] at hD2
    tm_at "s"
    refine s_new (Nat.le_of_lt (small1000 (by simp))) fun z4 H3 n3 e3 h3 => ?_
    refine .inr (s_neD (.lst (.inl (.inl (e3 _ _ hD2))) (dpInts (K := K) [])) (.lst (.inl (.inl h3)) (dpInts (K := K) [])) (shInts []) (shInts []) ?_)
    rw [SeqAt.eqv_refl _ (SeqAt.canLay_of_shaped (shInts []))]
    tm_at "s"
    have e13 := e1.trans (e2.trans e3)
    have W3 := W6.ex e13
    have c3 := c6.ex e13
    have K3 : ∀ b o, b ≠ p → H b = some o → H3 b = some o := fun b o hb h => e13 _ _ (K6 b o hb h)
    clear hD2 nD2 hcu1 hLs hD nD due hck hcu K6 c6 W6 h3 n3 e1 e2 e3
    refine s_new (Nat.le_of_lt (small1000 (by simp))) fun z5 H4 n4 e4 h4 => ?_
    have W4 := W3.ex e4
    refine ⟨p, z5, m, _, rfl, h4, by simp, by simp, W4.pen, by omega, fun v5 H5 hv5 p5 k5 => ?_⟩
    have W5 := W4.keep p5 k5
    have c5 := (c3.ex e4).keep W4.pen k5
    have K5 : ∀ b o, b ≠ p → H b = some o → H5 b = some o := fun b o hb h => k5 b o hb (e4 _ _ (K3 b o hb h))
    obtain ⟨far, rfl, hfar, hbig⟩ : ∃ i : Int, v5 = .int i ∧ ¬ (0 ≤ i ∧ i < (ns.length : Int)) ∧ i.natAbs ≤ 10 ^ 20 := by
      simp only [List.mem_cons, List.not_mem_nil, or_false] at hv5
      rcases hv5 with rfl | rfl | rfl | rfl | rfl
      · exact ⟨_, rfl, by omega, by omega⟩
      · exact ⟨_, rfl, by omega, by omega⟩
      · exact ⟨_, rfl, by omega, by omega⟩
      · exact ⟨_, rfl, by omega, by omega⟩
      · exact ⟨_, rfl, by rw [show (10 ^ (20 : Int).toNat : Int) = 100000000000000000000 from rfl]; omega, by decide +kernel⟩
    have hlg : far.natAbs.log2 < 1920 := log_le hbig (by decide +kernel)
    try dsimp only
    tm_at "s"
    refine s_huAt (v := .int far) W5.tabs (.int far hlg (fit_shown (x := .int far) (decide_eq_true hlg))) (fun E1 Ha Q' ea ta rz => ?_) (fun r1 H6 e6 t6 g1 => ?_)
    · have ca := c5.exN ea
      obtain ⟨dx, _, _, _, ia, _⟩ := id ca
      tm_at "s"
      exact ⟨q, dx, _, rfl, ia, q, _, ns, rfl, ca, .inr ⟨hfar, rz⟩⟩
    have W6 := W5.exN e6 t6
    tm_at "s"
    refine s_reprI hlg ?_
    tm_at "s"
    refine s_new (Nat.le_of_lt (small1000 (by simp))) fun l7 H7 n7 e7 h7 => ?_
    refine .inr (s_eqD (.tup (.inl (.inl (e7 _ _ g1))) (.cons (.str _) (.cons (.str _) .nil))) (.tup (.inl (.inl h7)) (.cons (.str _) (.cons (.str _) .nil))) (sh2 (by decide +kernel) (strOkI _)) (sh2 (by decide +kernel) (strOkI _)) ?_)
    rw [SeqAt.eqv_refl _ (SeqAt.canLay_of_shaped (sh2 (by decide +kernel) (strOkI _)))]
    exact kq H7 _ (by omega) (W6.ex e7) fun b o hb h ht => e7 _ _ (e6 b o (K5 b o hb h) ht)
end
end K09
end
section
local macro_rules | `(tactic| tm_at "s1") => `(tactic| first
  | with_reducible first
    | refine L3.s_seq ?_ | refine L3.s_asg ?_ | refine L3.s_op ?_ | refine L3.s_c ?_ | refine L3.s_cb ?_ | refine L3.s_cons ?_ | refine L3.s_nil ?_ | refine L3.s_test ?_ | refine L3.s_bl ?_
    | refine L3.s_I0 ?_ | refine L3.s_and ?_ | refine L3.s_or ?_ | refine L3.s_not ?_ | refine L3.s_if ?_ | refine L3.s_next ?_ | refine L3.s_ret ?_ | refine L3.s_retN ?_ | refine L3.s_asgS ?_ | refine L3.s_drop ?_
    | refine L3.s_un ?_ | refine L3.s_U ?_ | refine L3.s_int ?_ | refine L3.s_intB ?_ | refine L3.s_abs ?_ | refine L3.s_andV ?_ | refine L3.s_orV ?_ | refine L3.s_notV ?_ | refine L3.s_ifE ?_ | refine L3.s_call ?_ | refine L3.s_lst ?_ | refine L3.s_tup ?_ | refine L3.s_tB ?_
    | refine L3.s_addI ?_ | refine L3.s_inS ?_ | refine L3.s_ninS ?_ | refine L3.s_slice ?_ | refine L3.s_part ?_ | refine L3.s_partI ?_ | refine L3.s_nopart ?_ | refine L3.s_cI ?_ | refine L3.s_cB ?_ | refine L3.s_chain ?_ | refine L3.s_bm ?_ | refine L3.s_lcS ?_ | refine L3.s_lcR ?_ | refine L3.s_strE ?_
    | refine L2.iteT ?_ | refine L2.iteF ?_ | refine L3.iteNF ?_ | refine L3.iteNT ?_
    | refine L3.s_eqI ?_ | refine L3.s_neI ?_ | refine L3.s_eqS ?_ | refine L3.s_neS ?_
    | refine L3.s_pair ?_ | refine L3.s_pair2 ?_ | refine L3.s_fld ?_ | refine L3.s_make ?_ | refine L3.s_m1 ?_ | refine L3.s_isstr ?_
    | refine L3.s_xfV ?_ | refine L3.s_lstN ?_ | refine L3.s_callF ?_ | refine L3.s_lcL ?_ | refine L3.s_par3 ?_ | refine L3.s_trip ?_ | refine L3.s_asgT' ?_ | refine L3.s_gC ?_ | refine L3.s_gN ?_ | refine L3.s_fldG ?_ | refine L3.s_raise1 ?_ | refine L3.s_raise2 ?_ | refine L3.s_star ?_ | refine L3.s_mkCR ?_ | refine L3.s_lcZ ?_ | refine L3.s_forL ?_ | refine L3.s_forT ?_ | refine L3.s_gNm ?_ | refine L3.s_forE ?_ | refine L3.s_stC ?_ | refine L3.s_cmC ?_ | refine L3.s_forR1 ?_ | refine L3.s_lcTp ?_ | refine L3.s_forZ ?_ | refine L3.s_orT ?_ | refine L3.s_mt ?_ | refine L3.s_revT ?_ | refine L3.s_revL ?_ | refine L3.s_slOwn ?_ | refine L3.s_sl3 ?_ | refine L3.s_lcO ?_ | refine L3.s_stR ?_
    | refine L3.s_isN ?_ | refine L3.s_isB ?_ | refine L3.s_nisN ?_ | refine L3.s_nisB ?_
  | ((with_reducible refine' L3.s_var ?e ?_); (case e => rfl))
  | ((with_reducible refine' L3.s_aug ?e ?_); (case e => rfl))
  | ((with_reducible refine' L3.s_pow ?c ?_); (case c => exact ⟨by decide, by decide, by decide⟩)))
local macro_rules | `(tactic| tm_at "s") => `(tactic| repeat tm_at "s1")
namespace K09
open PySem PySem.NumText PySem.Spec PyProof.Rows L2 L3 LamX RZ ClX ItX
abbrev s__law_equal_right : Stmt := topS 37
abbrev names__law_equal_right : List Str := ["_law_pen_here", "_law_made_here", "_law_sizes_here", "_law_handed", "_law_again", "_law_bent", "_law_thing"]
theorem sc__law_equal_right : FnScope ["_law_pen_here", "_law_made_here", "_law_sizes_here", "_law_handed", "_law_again", "_law_bent", "_law_thing"] ["_law_pen_here", "_law_made_here", "_law_sizes_here"] (defScope s__law_equal_right) := ⟨rfl, rfl, rfl, by decide +kernel, rfl, by decide +kernel, by decide +kernel⟩
section
variable {P : Program} {w : World} {K : PySem.W.Frag} {mg : Str → Option Value} {base : Heap} {C CB CC CM CL CT CN CW : Addr}
theorem nc_of (T : Txt K mg C CB CC CM CL CT CN CW) {H : Hp} {v : V} {Ty : String} (h : TyX K H v (.type Ty)) (hm : Ty ∈ numTys) : NC K H (.ref C) v :=
  ⟨_, .x h, of_decide_eq_true (List.all_eq_true.mp T.kTC Ty hm)⟩
theorem eqv_lst (ns ms : List Int) : PyData.eqv (.list (ns.map PyData.int)) (.list (ms.map PyData.int)) = decide (ns = ms) := by
  unfold PyData.eqv
  exact eqv_ints ns ms
def spEqR (Tt : List (Addr × Str)) (C : Addr) : Sp := fun vs H Q _ => ∃ p q l n ns, vs = [.ref p, .ref q, .ref l] ∧ Wo Tt H p n ∧ n + 100 < lim ∧ Ck C H q ns ∧ H l = some (.lst ((ns : List Int).map V.int)) ∧ (∀ x ∈ ns, siz x) ∧ ns.length ≤ 8 ∧
  ∀ H' m, m ≤ n + 10 → Wo Tt H' p m → (∀ b o, b ≠ p → H b = some o → H' b = some o) → Q (.bl true) H'
theorem ok_equal {Tt : List (Addr × Str)} {f : Addr} {fd : FuncData} (F : Fun K "_law_equal_right" "_law_equal_right" s__law_equal_right f fd) (T : Txt K mg C CB CC CM CL CT CN CW)
    (c__law_pick : Fn P w K mg base CX0 2 "_law_pick" ["_law_pen_here", "_law_some"] spPick) (st_of : StM P w K mg base (L2.CX P w) 7 C "of" ["sizes"] (spOf K C CB CC CM))
    (me_eq : Me P w K mg base C "__eq__" 1 ["self", "other"] (spCkEq K C)) (me_str : Me P w K mg base C "__str__" 1 ["self"] (spStrC C)) :
    FnG P w K mg base CX0 11 f fd ["_law_pen_here", "_law_made_here", "_law_sizes_here"] (spEqR Tt C) := by
  refine funG F sc__law_equal_right (fun vs H Q E h => ?_) (fun cd A fr s H vs Q E hr hg h => ?_)
  · obtain ⟨p, q, l, n, ns, rfl, _⟩ := h; rfl
  · obtain ⟨p, q, l, n, ns, rfl, W, hlim, hc, hl, hs, hn, kq⟩ := h
    refine ⟨_, (pss_cons (ps_set (i := 3) sc__law_equal_right.nd rfl (Or.inl rfl) (pe_callTy (KX.callList (K := K) rfl rfl) (by rfl) T.b_list (by decide +kernel) (pa_cons (pv 2) pa_nil)))
      (pss_cons (ps_set (i := 4) sc__law_equal_right.nd rfl (Or.inl rfl) (pe_st st_of hr passF (C8.pe_gc (by rfl) T.g_Chunks) (pa_cons (pv 3) pa_nil)))
      (pss_cons (ps_expr (pe_bm PySem.F.plainAttrs_list PySem.F.slot_list_append PySem.F.type_list_append mt_append (pv 3) (pa_cons pe_int pa_nil)))
      (pss_cons (ps_if (PW.pt (pw_or (pt_not (pt_cmpR (cmpOwn (fun _ _ => rfl) T.cmp rfl me_eq hr passF) (pv 4) (pv 1) (nomark _))) (pw_or (pt_cmpR (neOwn T.cmp me_eq hr passF) (pv 4) (pv 1) (nomark _)) (pw_or1 (pt_cmpR (KX.neU (K := K) rfl hr.units) (KX.fld (K := K) rfl (pv 4) rfl) (pe_callTy call_tuple_of (by rfl) T.b_tuple (by decide +kernel) (pa_cons (pv 2) pa_nil)) (nomark _)))))) (pss_one (ps_ret pe_bl)) pss_nil)
      (pss_cons (ps_set (i := 5) sc__law_equal_right.nd rfl (Or.inl rfl) (pe_f c__law_pick hr hg pass0 (pa_cons (pv 0) (pa_cons (pe_lst (pa_cons (pe_op opAdd (pv 2) (pe_lst (pa_cons pe_int pa_nil))) (pa_cons (pe_op opAdd (KX.sl3 (K := K) rfl (pv 2) (po_some pe_int) po_none po_none) (pe_lst (pa_cons pe_int (pa_cons pe_int pa_nil)))) (pa_cons (pe_op opAdd (pe_lst (pa_cons pe_int pa_nil)) (pv 2)) pa_nil)))) pa_nil))))
      (pss_cons (ps_if (PW.pt (pw_or (pt_cmpR (KX.neU (K := K) rfl hr.units) (pe_cmpR (cmpOwn (fun _ _ => rfl) T.cmp rfl me_eq hr passF) (pe_st st_of hr passF (C8.pe_gc (by rfl) T.g_Chunks) (pa_cons (pv 5) pa_nil)) (pv 1) (nomark _)) (pe_cmpR (KX.eqU (K := K) rfl hr.units) (pv 5) (pv 2) (nomark _)) (nomark _)) (pw_or1 (pt_cmpR (KX.neU (K := K) rfl hr.units) (pe_cmpR (neOwn T.cmp me_eq hr passF) (pe_st st_of hr passF (C8.pe_gc (by rfl) T.g_Chunks) (pa_cons (pv 5) pa_nil)) (pv 1) (nomark _)) (pe_cmpR (KX.neU (K := K) rfl hr.units) (pv 5) (pv 2) (nomark _)) (nomark _))))) (pss_one (ps_ret pe_bl)) pss_nil)
      (pss_one (ps_ret (pe_cmpR (KX.eqU (K := K) rfl hr.units) (pe_lc (own := [("_law_thing", 6)]) (g := gName 6) (by rfl) sc__law_equal_right.nd (pi_list (pe_lst (pa_cons (pe_callTy call_tuple_of (by rfl) T.b_tuple (by decide +kernel) (pa_cons (pv 2) pa_nil)) (pa_cons (pv 2) (pa_cons (KX.fld (K := K) rfl (pv 1) rfl) (pa_cons pe_non (pa_cons (pe_callTy (callStrOwn me_str hr passF) (by rfl) T.b_str (by decide +kernel) (pa_cons (pv 1) pa_nil)) pa_nil))))))) (blkOk_by (own := [("_law_thing", 6)]) (N := names__law_equal_right) (sc := defScope s__law_equal_right) (by decide +kernel)) (fun _ _ _ _ _ => pg_name (i := 6) sc__law_equal_right.nd rfl (Or.inl rfl)) (fun _ _ _ _ _ => pts_one (pt_cmpR (eqOwnT (K := K) rfl T.cmp me_eq hr passF) (pv 1) (pv 6) (nomark _))) (fun _ _ _ _ _ => (pv 6))) (pe_lst pa_nil) (nomark _)))))))))), ?_⟩
    tm_at "s"
    refine s_listL (.inl (.inl hl)) fun l1 H1 n1 e1 h1 => ?_
    tm_at "s"
    refine ⟨_, rfl, .inl ⟨l1, _, rfl, .inl h1, by rw [List.length_map]; omega, .inl ⟨ns, rfl, hs, .inl ⟨by omega, fun q2 H2 e2 c2 => ?_⟩⟩⟩⟩
    try dsimp only
    tm_at "s"
    have h2 := e2 _ _ h1
    have nel : l ≠ l1 := ne_of_none hl n1
    refine s_tyL h2 ?_
    tm_at "s"
    refine s_app h2 (sz_of (by rw [List.length_map]; omega)) ?_
    have U : ∀ b o, b ≠ l1 → H2 b = some o → (upd H2 l1 (.lst (ns.map V.int ++ [.int 7]))) b = some o := fun b o hb h => by rw [upd_ne hb]; exact h
    have W3 := ((W.ex e1).ex e2).up (zs := ns.map V.int ++ [.int 7]) h2
    generalize upd H2 l1 (.lst (ns.map V.int ++ [.int 7])) = H3 at U W3 ⊢ -- upd H2 l1 (.lst (ns.map V.int ++ [.int 7])) = H3 at U
    have c3 := c2.upd1 h2 U
    have d3 := ((hc.ex e1).ex e2).upd1 h2 U
    have l3 := U _ _ nel (e2 _ _ (e1 _ _ hl))
    have K3 : ∀ b o, b ≠ p → H b = some o → H3 b = some o := fun b o _ h => U b o (ne_of_none h n1) (e2 _ _ (e1 _ _ h))
    clear U h2 c2 h1 hl hc W e1 e2 n1
    obtain ⟨dx, t1, t2, t3, i1, u1, u2, u3⟩ := id c3
    obtain ⟨dy, _, _, _, j1, _⟩ := id d3
    have own : ∀ {H' : Hp} {a b : Addr} {xs ys : List Int} {Q' : VK} {E' : XK}, Ck C H' a xs → Ck C H' b ys → Q' (.bl (decide (xs = ys))) H' → rOwn C (spCkEq K C) E' (.ref a) (.ref b) H' Q' := fun {H' a b xs ys Q' E'} ca cb k => by
      obtain ⟨d1, _, _, _, x1, _⟩ := id ca
      obtain ⟨d2, _, _, _, x2, _⟩ := id cb
      exact ⟨a, d1, _, rfl, x1, .inl ⟨b, d2, _, rfl, x2⟩, a, _, xs, rfl, ca, .inl ⟨b, ys, rfl, cb, k⟩⟩
    have nown : ∀ {H' : Hp} {a b : Addr} {xs ys : List Int} {Q' : VK} {E' : XK}, Ck C H' a xs → Ck C H' b ys → Q' (.bl (!decide (xs = ys))) H' → rNeQ (rOwn C (spCkEq K C) E') (.ref a) (.ref b) H' Q' := fun {H' a b xs ys Q' E'} ca cb k => by
      obtain ⟨d1, _, _, _, x1, _⟩ := id ca
      obtain ⟨d2, _, _, _, x2, _⟩ := id cb
      exact ⟨a, d1, _, rfl, x1, .inl ⟨b, d2, _, rfl, x2⟩, a, _, xs, rfl, ca, .inl ⟨b, ys, rfl, cb, _, rfl, k⟩⟩
    try dsimp only
    tm_at "s"
    refine own c3 d3 ?_
    rw [decide_eq_true rfl]
    tm_at "s"
    refine nown c3 d3 ?_
    rw [decide_eq_true rfl]
    tm_at "s"
    refine ⟨q2, C, dx, _, _, rfl, i1, T.c.cl, T.nS, rfl, ?_⟩
    tm_at "s"
    refine ⟨l, _, rfl, .inl ⟨.inl (.inl l3), fun t ht => ?_⟩⟩
    have e4 : Ex _ _ := ex_new (o := .tup (ns.map V.int)) ht
    have t4 : (upd H3 t (.tup (ns.map V.int))) t = some (.tup (ns.map V.int)) := upd_same
    generalize upd H3 t (.tup (ns.map V.int)) = H4 at e4 t4 ⊢
    refine .inr (s_neD (.tup (.inl (.inl (e4 _ _ u1))) (dpInts _)) (.tup (.inl (.inl t4)) (dpInts _)) (shTup _) (shTup _) ?_)
    rw [SeqAt.eqv_refl _ (SeqAt.canLay_of_shaped (shTup _))]
    tm_at "s"
    have W4 := W3.ex e4
    have l4 := e4 _ _ l3
    have d4 := d3.ex e4
    have K4 : ∀ b o, b ≠ p → H b = some o → H4 b = some o := fun b o hb h => e4 _ _ (K3 b o hb h)
    clear t4 e4 ht K3 l3 d3 c3 W3 i1 u1 u2 u3 j1
    try dsimp only
    tm_at "s"
    refine s_new (Nat.le_of_lt (small1000 (by simp))) fun a1 H5 n5 e5 h5 => ?_
    tm_at "s"
    refine s_addL (e5 _ _ l4) h5 (Nat.le_of_lt (sz_of (by rw [List.length_map]; simp; omega))) fun a2 H6 n6 e6 h6 => ?_
    tm_at "s"
    refine s_sl3L (e6 _ _ (e5 _ _ l4)) (fun z => nomatch z) fun a3 H7 e7 h7 => ?_
    rw [cut3_map] at h7
    have hc3 : (cut3 ns (some 1) none none).length ≤ 8 := Nat.le_trans (cut3_len _ _ _ _) hn
    tm_at "s"
    refine s_new (Nat.le_of_lt (small1000 (by simp))) fun a4 H8 n8 e8 h8 => ?_
    tm_at "s"
    refine s_addL (e8 _ _ h7) h8 (Nat.le_of_lt (sz_of (by rw [List.length_map]; simp; omega))) fun a5 H9 n9 e9 h9 => ?_
    tm_at "s"
    refine s_new (Nat.le_of_lt (small1000 (by simp))) fun a6 H10 n10 e10 h10 => ?_
    tm_at "s"
    have E10 := e5.trans (e6.trans (e7.trans (e8.trans (e9.trans e10))))
    refine s_addL h10 (E10 _ _ l4) (Nat.le_of_lt (sz_of (by rw [List.length_map]; simp; omega))) fun a7 H11 n11 e11 h11 => ?_
    tm_at "s"
    refine s_new (Nat.le_of_lt (small1000 (by simp))) fun z1 H12 n12 e12 h12 => ?_
    have E12 := E10.trans (e11.trans e12)
    have W12 := W4.ex E12
    have l12 := E12 _ _ l4
    have d12 := d4.ex E12
    have x1 := e12 _ _ (e11 _ _ (e10 _ _ (e9 _ _ (e8 _ _ (e7 _ _ h6)))))
    have x2 := e12 _ _ (e11 _ _ (e10 _ _ h9))
    have x3 := e12 _ _ h11
    have K12 : ∀ b o, b ≠ p → H b = some o → H12 b = some o := fun b o hb h => E12 _ _ (K4 b o hb h)
    refine ⟨p, z1, n, _, rfl, h12, by simp, by simp, W12.pen, by omega, fun v H13 hv p13 k13 => ?_⟩
    have W13 := W12.keep p13 k13
    have l13 := lst_keep l12 W12.pen k13
    have d13 := d12.keep W12.pen k13
    have K13 : ∀ b o, b ≠ p → H b = some o → H13 b = some o := fun b o hb h => k13 b o hb (K12 b o hb h)
    obtain ⟨bl, ms, rfl, hb, hms, hml⟩ : ∃ bl ms, v = .ref bl ∧ H13 bl = some (.lst ((ms : List Int).map V.int)) ∧ (∀ x ∈ ms, siz x) ∧ ms.length ≤ 20 := by
      have s1 : ∀ i : Int, i = 1 ∨ i = 3 ∨ i = 4 → siz i := fun i hi => by
        rcases hi with rfl | rfl | rfl <;> (unfold siz; decide +kernel)
      simp only [List.mem_cons, List.not_mem_nil, or_false] at hv
      rcases hv with rfl | rfl | rfl
      · exact ⟨_, ns ++ [1], rfl, by rw [List.map_append]; exact lst_keep x1 W12.pen k13, fun x hx => (List.mem_append.mp hx).elim (hs x) fun h => s1 x (.inl (List.mem_singleton.mp h)), by simp; omega⟩
      · exact ⟨_, cut3 ns (some 1) none none ++ [3, 3], rfl, by rw [List.map_append]; exact lst_keep x2 W12.pen k13, fun x hx => (List.mem_append.mp hx).elim (fun h => hs x (cut3_mem h)) fun h => s1 x (.inr (.inl (by simpa using h))), by simp; omega⟩
      · exact ⟨_, 4 :: ns, rfl, lst_keep x3 W12.pen k13, fun x hx => (List.mem_cons.mp hx).elim (fun h => s1 x (.inr (.inr h))) (hs x), by simp; omega⟩
    clear hv x1 x2 x3 K12 d12 l12 k13 p13 W12 h12 E12 E10 h11 h10 h9 h8 h7 h6 h5 e5 e6 e7 e8 e9 e10 e11 e12 n5 n6 n8 n9 n10 n11 n12 l4 d4 W4 K4
    try dsimp only
    tm_at "s"
    refine ⟨_, rfl, .inl ⟨bl, _, rfl, .inl hb, by rw [List.length_map]; omega, .inl ⟨ms, rfl, hms, .inl ⟨by omega, fun q3 H14 e14 c14 => ?_⟩⟩⟩⟩
    tm_at "s"
    have d14 := d13.ex e14
    refine own c14 d14 ?_
    tm_at "s"
    have b14 := e14 _ _ hb
    have l14 := e14 _ _ l13
    refine .inr (s_eqD (.lst (.inl (.inl b14)) (dpInts _)) (.lst (.inl (.inl l14)) (dpInts _)) (shInts _) (shInts _) ?_)
    rw [eqv_lst]
    try dsimp only
    refine .inr (s_neD (.bl _) (.bl _) rfl rfl ?_)
    rw [SeqAt.eqv_refl _ (SeqAt.canLay_of_shaped rfl)]
    tm_at "s"
    refine ⟨_, rfl, .inl ⟨bl, _, rfl, .inl b14, by rw [List.length_map]; omega, .inl ⟨ms, rfl, hms, .inl ⟨by omega, fun q4 H15 e15 c15 => ?_⟩⟩⟩⟩
    tm_at "s"
    have d15 := d14.ex e15
    refine nown c15 d15 ?_
    tm_at "s"
    have b15 := e15 _ _ b14
    have l15 := e15 _ _ l14
    refine .inr (s_neD (.lst (.inl (.inl b15)) (dpInts _)) (.lst (.inl (.inl l15)) (dpInts _)) (shInts _) (shInts _) ?_)
    rw [eqv_lst]
    try dsimp only
    refine .inr (s_neD (.bl _) (.bl _) rfl rfl ?_)
    rw [SeqAt.eqv_refl _ (SeqAt.canLay_of_shaped rfl)]
    tm_at "s"
    have W15 := W13.ex (e14.trans e15)
    have K15 : ∀ b o, b ≠ p → H b = some o → H15 b = some o := fun b o hb h => e15 _ _ (e14 _ _ (K13 b o hb h))
    clear c15 b15 e15 c14 b14 l14 e14 hms hml hb K13 d13 l13 W13 d14
    obtain ⟨dz, z2, z3, z4, i15, _⟩ := id d15
    refine ⟨l, _, rfl, .inl ⟨.inl (.inl l15), fun t ht => ?_⟩⟩
    have e16 : Ex _ _ := ex_new (o := .tup (ns.map V.int)) ht
    have t16 : (upd H15 t (.tup (ns.map V.int))) t = some (.tup (ns.map V.int)) := upd_same
    generalize upd H15 t (.tup (ns.map V.int)) = H16 at e16 t16 ⊢
    tm_at "s"
    refine ⟨q, C, dz, _, _, rfl, e16 _ _ i15, T.c.cl, T.nT, rfl, ?_⟩
    tm_at "s"
    refine ⟨q, dz, _, rfl, e16 _ _ i15, q, ns, rfl, d15.ex e16, by omega, hs, fun H17 e17 => ⟨_, rfl, ?_⟩⟩
    tm_at "s"
    refine s_new (Nat.le_of_lt (small1000 (by simp))) fun z5 H18 n18 e18 h18 => ?_
    have E18 := e16.trans (e17.trans e18)
    have d18 := d15.ex E18
    have l18 := E18 _ _ l15
    have t18 := e18 _ _ (e17 _ _ t16)
    try dsimp only
    tm_at "s"
    refine ⟨z5, rfl, ⟨_, .inl (.inl h18)⟩, lcLI (fun _ => false) (fun _ => .non) h18 (small1000 (by simp)) (fun _ => rfl) (fun i x H2 R hx e r => ?_) (fun i x H6 R hx hb e r => nomatch hb) fun D2 H2 nD2 e2 hD2 => ?_⟩
    · have dd := d18.ex e
      obtain ⟨da, _, _, _, ia, _⟩ := id dd
      obtain ⟨Ty, ty, hm⟩ : ∃ Ty, TyX K H2 x (.type Ty) ∧ Ty ∈ numTys := by
        have hx' := List.mem_of_getElem? hx
        simp only [List.mem_cons, List.not_mem_nil, or_false] at hx'
        rcases hx' with rfl | rfl | rfl | rfl | rfl
        · exact ⟨_, .base (.tup (e _ _ t18)), by simp⟩
        · exact ⟨_, .base (.lst (e _ _ l18)), by simp⟩
        · exact ⟨_, .base (.int _), by simp⟩
        · exact ⟨_, .base .non, by simp⟩
        · exact ⟨_, .base (.str _), by simp⟩
      tm_at "s"
      exact ⟨q, da, _, Ty, rfl, ia, ty, hm, q, _, ns, rfl, dd, .inr ⟨nc_of T ty hm, _, rfl, r⟩⟩
    rw [filt_no] at hD2
    tm_at "s"
    refine s_new (Nat.le_of_lt (small1000 (by simp))) fun z6 H3 n3 e3 h3 => ?_
    refine .inr (s_eqD (.lst (.inl (.inl (e3 _ _ hD2))) (dpInts (K := K) [])) (.lst (.inl (.inl h3)) (dpInts (K := K) [])) (shInts []) (shInts []) ?_)
    rw [SeqAt.eqv_refl _ (SeqAt.canLay_of_shaped (shInts []))]
    have EE := E18.trans (e2.trans e3)
    exact kq H3 (n + 1) (by omega) (W15.ex EE) fun b o hb h => EE _ _ (K15 b o hb h)
end
end K09
end
section
local macro_rules | `(tactic| tm_at "s1") => `(tactic| first
  | with_reducible first
    | refine L3.s_seq ?_ | refine L3.s_asg ?_ | refine L3.s_op ?_ | refine L3.s_c ?_ | refine L3.s_cb ?_ | refine L3.s_cons ?_ | refine L3.s_nil ?_ | refine L3.s_test ?_ | refine L3.s_bl ?_
    | refine L3.s_I0 ?_ | refine L3.s_and ?_ | refine L3.s_or ?_ | refine L3.s_not ?_ | refine L3.s_if ?_ | refine L3.s_next ?_ | refine L3.s_ret ?_ | refine L3.s_retN ?_ | refine L3.s_asgS ?_ | refine L3.s_drop ?_
    | refine L3.s_un ?_ | refine L3.s_U ?_ | refine L3.s_int ?_ | refine L3.s_intB ?_ | refine L3.s_abs ?_ | refine L3.s_andV ?_ | refine L3.s_orV ?_ | refine L3.s_notV ?_ | refine L3.s_ifE ?_ | refine L3.s_call ?_ | refine L3.s_lst ?_ | refine L3.s_tup ?_ | refine L3.s_tB ?_
    | refine L3.s_addI ?_ | refine L3.s_inS ?_ | refine L3.s_ninS ?_ | refine L3.s_slice ?_ | refine L3.s_part ?_ | refine L3.s_partI ?_ | refine L3.s_nopart ?_ | refine L3.s_cI ?_ | refine L3.s_cB ?_ | refine L3.s_chain ?_ | refine L3.s_bm ?_ | refine L3.s_lcS ?_ | refine L3.s_lcR ?_ | refine L3.s_strE ?_
    | refine L2.iteT ?_ | refine L2.iteF ?_ | refine L3.iteNF ?_ | refine L3.iteNT ?_
    | refine L3.s_eqI ?_ | refine L3.s_neI ?_ | refine L3.s_eqS ?_ | refine L3.s_neS ?_
    | refine L3.s_pair ?_ | refine L3.s_pair2 ?_ | refine L3.s_fld ?_ | refine L3.s_make ?_ | refine L3.s_m1 ?_ | refine L3.s_isstr ?_
    | refine L3.s_xfV ?_ | refine L3.s_lstN ?_ | refine L3.s_callF ?_ | refine L3.s_lcL ?_ | refine L3.s_par3 ?_ | refine L3.s_trip ?_ | refine L3.s_asgT' ?_ | refine L3.s_gC ?_ | refine L3.s_gN ?_ | refine L3.s_fldG ?_ | refine L3.s_raise1 ?_ | refine L3.s_raise2 ?_ | refine L3.s_star ?_ | refine L3.s_mkCR ?_ | refine L3.s_lcZ ?_ | refine L3.s_forL ?_ | refine L3.s_forT ?_ | refine L3.s_gNm ?_ | refine L3.s_forE ?_ | refine L3.s_stC ?_ | refine L3.s_cmC ?_ | refine L3.s_forR1 ?_ | refine L3.s_lcTp ?_ | refine L3.s_forZ ?_ | refine L3.s_orT ?_ | refine L3.s_mt ?_ | refine L3.s_revT ?_ | refine L3.s_revL ?_ | refine L3.s_slOwn ?_ | refine L3.s_sl3 ?_ | refine L3.s_lcO ?_ | refine L3.s_stR ?_
    | refine L3.s_isN ?_ | refine L3.s_isB ?_ | refine L3.s_nisN ?_ | refine L3.s_nisB ?_
  | ((with_reducible refine' L3.s_var ?e ?_); (case e => rfl))
  | ((with_reducible refine' L3.s_aug ?e ?_); (case e => rfl))
  | ((with_reducible refine' L3.s_pow ?c ?_); (case c => exact ⟨by decide, by decide, by decide⟩)))
local macro_rules | `(tactic| tm_at "s") => `(tactic| repeat tm_at "s1")
namespace K09
open PySem PySem.NumText PySem.Spec PyProof.Rows L2 L3 LamX RZ ClX ItX
abbrev s__law_refused_right : Stmt := topS 38
theorem sc__law_refused_right : FnScope ["_law_pen_here", "_law_sizes_here", "_law_some", "_law_odd", "_law_spot", "_law_bent", "_law_strange", "_law_heard_here"] ["_law_pen_here", "_law_sizes_here"] (defScope s__law_refused_right) := ⟨rfl, rfl, rfl, by decide +kernel, rfl, by decide +kernel, by decide +kernel⟩
abbrev lamQ2 : Str := (("_law_refused_right" : Str) ++ ".<locals>.") ++ "<lambda>"
section
variable {P : Program} {w : World} {K : PySem.W.Frag} {mg : Str → Option Value} {base : Heap} {C CB CC CM CL CT CN CW : Addr}
theorem vl_pen {H : Hp} {v : V} {t : Str} {a : Addr} {n : Nat} (h : Vl H v t) (p : Pen H a n) : v ≠ .ref a := fun z => by
  subst z
  obtain ⟨c, hc⟩ := p.at
  cases h with
  | od h =>
    cases h with
    | tup q _ _ => rw [hc] at q; unfold PenO at q; cases q
    | lst q _ _ => rw [hc] at q; unfold PenO at q; cases q
    | dic q => rw [hc] at q; unfold PenO at q; cases q
  | d12 q => rw [hc] at q; unfold PenO at q; cases q
/-- such a value is no size: it holds wherever the value still lies -/
theorem out_of {K : PySem.W.Frag} {H : Hp} {v : V} {t : Str} (h : Vl H v t) (n : ∀ i, v = .int i → ¬ (1 ≤ i ∧ i ≤ 10 ^ 30)) : OutS K H v 1 (10 ^ 30) := by
  cases h with
  | od h =>
    rcases h.noInt (K := K) with ⟨b, rfl⟩ | ⟨ty, a, b⟩
    · exact .inl (.inl ⟨b, rfl⟩)
    · exact .inl (.inr ⟨ty, a, b⟩)
  | int i _ _ => exact .inr ⟨i, rfl, n i rfl⟩
  | d12 q => exact .inl (.inr ⟨_, .x (.base (.dK q)), kit_ty (by decide +kernel)⟩)
def rTupOf (K : PySem.W.Frag) : List V → Hp → VK → Prop := fun xs H Q => ∃ p ys, xs = [.ref p] ∧ ((SqL K H p ys ∧ ∀ l, H l = none → Q (.ref l) (upd H l (.tup ys))) ∨ (SqT K H p ys ∧ Q (.ref p) H))
theorem KX_callTup {X : Cx} {K : PySem.W.Frag} (hK : X.K = K) : CallR X (.type "tuple") (rTupOf K) := by
  subst hK
  exact call_tuple_of
def tgS (tx : Str) : List V := [.str "size", .str tx]
def pD : List V := [.str "chunks", .str "sizes"]
def fD : List V → List PyData := fun vs => vs.map fun v => match v with | .str z => .str z | _ => .none
theorem nlt_of {H : Hp} {v : V} {T : String} (h : TyX K H v (.type T)) (h1 : PySem.W.kitOne K (.type T) (.type "list") = some false) (h2 : PySem.W.kitOne K (.type T) (.type "tuple") = some false) : NLT K H v := by
  refine ⟨_, h, ?_⟩
  unfold PySem.W.kitAny
  rw [h1]
  unfold PySem.W.kitAny
  rw [h2]
  rfl
def spRefR (Tt : List (Addr × Str)) : Sp := fun vs H Q _ => ∃ p l n ns, vs = [.ref p, .ref l] ∧ Wo Tt H p n ∧ n + 100 < lim ∧ H l = some (.lst ((ns : List Int).map V.int)) ∧ (∀ x ∈ ns, siz x) ∧ ns.length ≤ 8 ∧
  ∀ H' m, m ≤ n + 10 → Wo Tt H' p m → Q (.bl true) H'
theorem ok_refused {f c Pt : Addr} {fd : FuncData} (F : FunC K "_law_refused_right" "_law_refused_right" s__law_refused_right c f fd) (TB : TabB base mg c Pt) {Tt : List (Addr × Str)} (hmT : (Pt, lamQ2) ∈ Tt) (huT : ∀ p ∈ Tt, p.1 = Pt → p.2 = lamQ2) (T : Txt K mg C CB CC CM CL CT CN CW) (F5 : Kit5 K CB CC CM CT CN) (FH : HeF K mg)
    (c__law_draw : Fn P w K mg base CX0 1 "_law_draw" ["_law_pen_here", "_law_many"] spDraw) (c__law_pick : Fn P w K mg base CX0 2 "_law_pick" ["_law_pen_here", "_law_some"] spPick)
    (st_of : StM P w K mg base (L2.CX P w) 7 C "of" ["sizes"] (spOf K C CB CC CM)) (m_Chunks : McR P w K mg base (L2.CX P w) 5 "Chunks" C (spCk K C CB CM)) :
    FnG P w K mg base CX0 14 f fd ["_law_pen_here", "_law_sizes_here"] (spRefR Tt) := by
  refine funGC F sc__law_refused_right (fun vs H Q E h => ?_) (fun A fr s H vs Q E hr hg h => ?_)
  · obtain ⟨p, l, n, ns, rfl, _⟩ := h; rfl
  · obtain ⟨p, l, n, ns, rfl, W, hlim, hl, hs, hn, kq⟩ := h
    refine ⟨_, (pss_cons (ps_set (i := 2) sc__law_refused_right.nd rfl (Or.inl rfl) (pe_lst (pa_cons pe_non (pa_cons pe_int (pa_cons (pe_un un_neg pe_int) (pa_cons pe_bl (pa_cons pe_str (pa_cons (pe_tup (pa_cons pe_int pa_nil)) (pa_cons (pe_lst (pa_cons pe_int pa_nil)) (pa_cons pe_dnewK (pa_cons (pe_op opAdd (pe_op op_pow pe_int pe_int) pe_int) pa_nil)))))))))))
      (pss_cons (ps_asg (pe_tup (pa_cons (pe_f c__law_pick hr hg pass0 (pa_cons (pv 0) (pa_cons (pv 2) pa_nil))) (pa_cons (pe_f c__law_draw hr hg pass0 (pa_cons (pv 0) (pa_cons (pe_op opAdd (pe_callB (KX.callLen (K := K)) (by rfl) T.b_len (by decide +kernel) (pa_cons (pv 1) pa_nil)) pe_int) pa_nil))) pa_nil))) (KX.tup (K := K) rfl rfl (pgs_cons (pg_name (i := 3) sc__law_refused_right.nd rfl (Or.inr rfl)) (pgs_cons (pg_name (i := 4) sc__law_refused_right.nd rfl (Or.inl rfl)) pgs_nil))))
      (pss_cons (ps_set (i := 5) sc__law_refused_right.nd rfl (Or.inr rfl) (pe_op opAdd (pe_op opAdd (pe_op opAdd (KX.sl3 (K := K) rfl (pv 1) po_none (po_some (pv 4)) po_none) (pe_lst (pa_cons (pv 3) pa_nil))) (KX.sl3 (K := K) rfl (pv 1) (po_some (pv 4)) po_none po_none)) (pe_lst (pa_cons (pe_f c__law_pick hr hg pass0 (pa_cons (pv 0) (pa_cons (pv 2) pa_nil))) pa_nil))))
      (pss_cons (ps_set (i := 6) sc__law_refused_right.nd rfl (Or.inr rfl) (pe_f c__law_pick hr hg pass0 (pa_cons (pv 0) (pa_cons (pe_lst (pa_cons pe_non (pa_cons pe_int (pa_cons pe_str (pa_cons pe_dnewK (pa_cons (pe_disp (pps_cons pe_int pe_int pps_nil) (by rfl) (by rfl) (fun z => by cases z) (by decide)) (pa_cons pe_bl (pa_cons (pe_mkR m_Chunks hr passF (pa_cons pe_int pa_nil)) pa_nil)))))))) pa_nil))))
      (pss_cons (ps_set (i := 7) sc__law_refused_right.nd rfl (Or.inl rfl) (pe_lst (pa_cons (pe__law_heard FH T F5 TB hg hr hmT huT (lamS_by (sc := defScope s__law_refused_right) (by decide +kernel)) (fun A outer s H E f c' hr' => (pe_st st_of hr' (passT (takes_of rfl rfl rfl rfl) (fun _ _ _ _ h => h)) (C8.pe_gc (by rfl) T.g_Chunks) (pa_cons (pv 5) pa_nil)))) pa_nil)))
      (pss_cons (ps_expr (pe_bm PySem.F.plainAttrs_list PySem.F.slot_list_append PySem.F.type_list_append mt_append (pv 7) (pa_cons (pe__law_heard FH T F5 TB hg hr hmT huT (lamS_by (sc := defScope s__law_refused_right) (by decide +kernel)) (fun A outer s H E f c' hr' => (pe_st st_of hr' (passT (takes_of rfl rfl rfl rfl) (fun _ _ _ _ h => h)) (C8.pe_gc (by rfl) T.g_Chunks) (pa_cons (pe_callTy (KX_callTup (K := K) rfl) (by rfl) T.b_tuple (by decide +kernel) (pa_cons (pv 5) pa_nil)) pa_nil)))) pa_nil)))
      (pss_cons (ps_expr (pe_bm PySem.F.plainAttrs_list PySem.F.slot_list_append PySem.F.type_list_append mt_append (pv 7) (pa_cons (pe__law_heard FH T F5 TB hg hr hmT huT (lamS_by (sc := defScope s__law_refused_right) (by decide +kernel)) (fun A outer s H E f c' hr' => (pe_mkR m_Chunks hr' (passT (takes_of rfl rfl rfl rfl) (fun _ _ _ _ h => h)) (pa_cons (pv 3) pa_nil)))) pa_nil)))
      (pss_cons (ps_expr (pe_bm PySem.F.plainAttrs_list PySem.F.slot_list_append PySem.F.type_list_append mt_append (pv 7) (pa_cons (pe__law_heard FH T F5 TB hg hr hmT huT (lamS_by (sc := defScope s__law_refused_right) (by decide +kernel)) (fun A outer s H E f c' hr' => (pe_mkR m_Chunks hr' (passT (takes_of rfl rfl rfl rfl) (fun _ _ _ _ h => h)) (pa_cons pe_int (pa_cons (pv 3) (pa_cons pe_non pa_nil)))))) pa_nil)))
      (pss_cons (ps_expr (pe_bm PySem.F.plainAttrs_list PySem.F.slot_list_append PySem.F.type_list_append mt_append (pv 7) (pa_cons (pe__law_heard FH T F5 TB hg hr hmT huT (lamS_by (sc := defScope s__law_refused_right) (by decide +kernel)) (fun A outer s H E f c' hr' => (pe_st st_of hr' (passT (takes_of rfl rfl rfl rfl) (fun _ _ _ _ h => h)) (C8.pe_gc (by rfl) T.g_Chunks) (pa_cons (pv 6) pa_nil)))) pa_nil)))
      (pss_one (ps_ret (pe_cmpR (KX.eqU (K := K) rfl hr.units) (pv 7) (pe_op opAdd (pe_op opMul (pe_lst (pa_cons (pe_tup (pa_cons pe_str (pa_cons (pe_callB (callReprU (K := K) rfl hg hr.units) (by rfl) T.b_repr (by decide +kernel) (pa_cons (pv 3) pa_nil)) pa_nil))) pa_nil)) pe_int) (pe_lst (pa_cons (pe_tup (pa_cons pe_str (pa_cons pe_str pa_nil))) pa_nil))) (nomark _))))))))))))), ?_⟩
    tm_at "s"
    refine s_new (Nat.le_of_lt (small1000 (by simp))) fun ta H1 n1 e1 h1 => ?_
    tm_at "s"
    refine s_new (Nat.le_of_lt (small1000 (by simp))) fun la H2 n2 e2 h2 => ?_
    tm_at "s"
    refine s_dnew fun dd H3 n3 e3 h3 => ?_
    tm_at "s"
    refine s_new (Nat.le_of_lt (small1000 (by simp))) fun z1 H4 n4 e4 h4 => ?_
    have E4 := e1.trans (e2.trans (e3.trans e4))
    have W4 := W.ex E4
    try dsimp only
    tm_at "s"
    refine ⟨p, z1, n, _, rfl, h4, by simp, by simp, W4.pen, by omega, fun v1 H5 hv1 p5 k5 => ?_⟩
    have W5 := W4.keep p5 k5
    have l5 := lst_keep (E4 _ _ hl) W4.pen k5
    have ta5 := tup_keep (e4 _ _ (e3 _ _ (e2 _ _ h1))) W4.pen k5
    have la5 := lst_keep (e4 _ _ (e3 _ _ h2)) W4.pen k5
    have dd5 := dk_keep (e4 _ _ h3) W4.pen k5
    have z5 := lst_keep h4 W4.pen k5
    tm_at "s"
    refine s_lenL l5 ?_
    rw [List.length_map]
    try dsimp only
    tm_at "s"
    refine ⟨p, n + 1, (ns.length : Int) + 1, rfl, by omega, by omega, W5.pen, by omega, fun d H6 d0 d1 p6 k6 => ?_⟩
    have W6 := W5.keep p6 k6
    have l6 := lst_keep l5 W5.pen k6
    have ta6 := tup_keep ta5 W5.pen k6
    have la6 := lst_keep la5 W5.pen k6
    have dd6 := dk_keep dd5 W5.pen k6
    have z6 := lst_keep z5 W5.pen k6
    try dsimp only
    tm_at "s"
    refine s_new (Nat.le_of_lt (small1000 (by simp))) fun tq Hq nq eq hq => ?_
    refine s_gT (xs := [v1, .int d]) hq rfl ?_
    replace W6 := W6.ex eq
    replace l6 := eq _ _ l6
    replace ta6 := eq _ _ ta6
    replace la6 := eq _ _ la6
    replace dd6 := eq _ _ dd6
    replace z6 := eq _ _ z6
    clear hq eq nq
    try dsimp only
    tm_at "s"
    have o1 : ∃ tx, Vl Hq v1 tx ∧ (∀ i, v1 = .int i → ¬ (1 ≤ i ∧ i ≤ 10 ^ 30)) ∧ PyData.strOk tx = true := by
      have na : ∀ v : V, (∀ i, v ≠ .int i) → ∀ i, v = .int i → ¬ (1 ≤ i ∧ i ≤ 10 ^ 30) := fun v h i e => absurd e (h i)
      simp only [List.mem_cons, List.not_mem_nil, or_false] at hv1
      rcases hv1 with rfl | rfl | rfl | rfl | rfl | rfl | rfl | rfl | rfl
      · exact ⟨_, .od .non, na _ (fun i z => nomatch z), by decide +kernel⟩
      · exact ⟨_, .int _ (by decide +kernel) (by decide +kernel), fun i e => by cases e; decide, by decide +kernel⟩
      · exact ⟨_, .int _ (by decide +kernel) (by decide +kernel), fun i e => by cases e; decide, by decide +kernel⟩
      · exact ⟨_, .od (.bl _), na _ (fun i z => nomatch z), by decide +kernel⟩
      · exact ⟨_, .od (.str _ (by decide) (by decide +kernel)), na _ (fun i z => nomatch z), by decide +kernel⟩
      · exact ⟨_, .od (.tup ta6 (by decide +kernel) (by decide +kernel)), na _ (fun i z => nomatch z), by decide +kernel⟩
      · exact ⟨_, .od (.lst la6 (by decide +kernel) (by decide)), na _ (fun i z => nomatch z), by decide +kernel⟩
      · exact ⟨_, .od (.dic dd6), na _ (fun i z => nomatch z), by decide +kernel⟩
      · exact ⟨_, .int _ (by decide +kernel) (by decide +kernel), fun i e => by cases e; decide +kernel, by decide +kernel⟩
    obtain ⟨tx, vl1, o1, ok1⟩ := o1
    have z6' : ∃ l : List V, Hq z1 = some (.lst l) ∧ l ≠ [] ∧ l.length ≤ 100000 := ⟨_, z6, by simp, by simp⟩
    clear z6 z5 ta6 ta5 la6 la5 dd6 dd5 hv1 h4 h3 h2 h1
    obtain ⟨zl, z6, zl0, zl1⟩ := z6'
    refine s_sl3L l6 (fun z => nomatch z) fun r1 H7 e7 h7 => ?_
    rw [cut3_map] at h7
    tm_at "s"
    refine s_new (Nat.le_of_lt (small1000 (by simp))) fun r2 H8 n8 e8 h8 => ?_
    tm_at "s"
    have hc1 : (cut3 ns none (some d) none).length ≤ 8 := Nat.le_trans (cut3_len _ _ _ _) hn
    have hc2 : (cut3 ns (some d) none none).length ≤ 8 := Nat.le_trans (cut3_len _ _ _ _) hn
    refine s_addL (e8 _ _ h7) h8 (Nat.le_of_lt (sz_of (by rw [List.length_map]; simp; omega))) fun r3 H9 n9 e9 h9 => ?_
    tm_at "s"
    refine s_sl3L (e9 _ _ (e8 _ _ (e7 _ _ l6))) (fun z => nomatch z) fun r4 H10 e10 h10 => ?_
    rw [cut3_map] at h10
    tm_at "s"
    refine s_addL (e10 _ _ h9) h10 (Nat.le_of_lt (sz_of (by rw [List.length_append, List.length_map, List.length_map]; simp; omega))) fun r5 H11 n11 e11 h11 => ?_
    tm_at "s"
    have E11 := e7.trans (e8.trans (e9.trans (e10.trans e11)))
    have W11 := W6.ex E11
    refine ⟨p, z1, n + 1 + 1, _, rfl, E11 _ _ z6, zl0, zl1, W11.pen, by omega, fun v2 H12 hv2 p12 k12 => ?_⟩
    have W12 := W11.keep p12 k12
    have vl12 : Vl H12 v1 tx := (vl1.ex E11).keep (vl_pen (vl1.ex E11) W11.pen) k12
    have r12 := lst_keep h11 W11.pen k12
    clear vl1 E11 W11 k12 p12 z6 zl0 zl1 h11 n11 e11 h10 e10 h9 n9 e9 h8 n8 e8 h7 e7 W6 l6 hv2 W5 l5 W4 E4 e1 e2 e3 e4
    tm_at "s"
    refine s_new (Nat.le_of_lt (small1000 (by simp))) fun r6 H13 n13 e13 h13 => ?_
    tm_at "s"
    refine s_addL (e13 _ _ r12) h13 (Nat.le_of_lt (sz_of (by simp only [List.length_append, List.length_map, List.length_cons, List.length_nil]; omega))) fun bt H14 n14 e14 h14 => ?_
    have e14' := e13.trans e14
    have W14 := W12.ex e14'
    have vl14 := vl12.ex e14'
    obtain ⟨xs, hxs, xl, rest, xe⟩ : ∃ xs, xs = (cut3 ns none (some d) none).map V.int ++ [v1] ++ (cut3 ns (some d) none none).map V.int ++ [v2] ∧ xs.length ≤ 100000 ∧ ∃ rest, xs = (cut3 ns none (some d) none).map V.int ++ v1 :: rest :=
      ⟨_, rfl, by simp only [List.length_append, List.length_map, List.length_cons, List.length_nil]; omega, (cut3 ns (some d) none none).map V.int ++ [v2], by simp⟩
    rw [← hxs] at h14
    have hsz : ∀ n ∈ cut3 ns none (some d) none, siz n := fun n hn => hs n (cut3_mem hn)
    clear hxs r12 e14' h13 n13 e13 e14 W12 vl12
    try dsimp only
    tm_at "s"
    refine s_dnew fun g1 H15 n15 e15 h15 => ?_
    tm_at "s"
    refine s_disp1 (k := .inl 1) (v' := .int 2) (fun _ _ h => h) (fun _ _ h => h) fun g2 H16 n16 e16 h16 => ?_
    tm_at "s"
    refine s_mkCk ⟨by simp, .inl ⟨[2], rfl, (fun n hn => by rw [List.mem_singleton.mp hn]; unfold siz; decide +kernel), .inl ⟨by decide, fun q2 H17 _ e17 c17 => ?_⟩⟩⟩
    tm_at "s"
    refine s_new (Nat.le_of_lt (small1000 (by simp))) fun z3 H18 n18 e18 h18 => ?_
    have E18 := e15.trans (e16.trans (e17.trans e18))
    have W18 := W14.ex E18
    refine ⟨p, z3, n + 1 + 1 + 1, _, rfl, h18, by simp, by simp, W18.pen, by omega, fun v3 H19 hv3 p19 k19 => ?_⟩
    have W19 := W18.keep p19 k19
    have vl19 := (vl14.ex E18).keep (vl_pen (vl14.ex E18) W18.pen) k19
    have b19 := lst_keep (E18 _ _ h14) W18.pen k19
    have g19 := dk_keep (e18 _ _ (e17 _ _ (e16 _ _ h15))) W18.pen k19
    have f19 := dk_keep (e18 _ _ (e17 _ _ h16)) W18.pen k19
    have c19 := (c17.ex e18).keep W18.pen k19
    have o3 : NLT K H19 v3 := by
      simp only [List.mem_cons, List.not_mem_nil, or_false] at hv3
      rcases hv3 with rfl | rfl | rfl | rfl | rfl | rfl | rfl
      · exact nlt_of (.base .non) (kit_ty (by decide +kernel)) (kit_ty (by decide +kernel))
      · exact nlt_of (.base (.int _)) (kit_ty (by decide +kernel)) (kit_ty (by decide +kernel))
      · exact nlt_of (.base (.str _)) (kit_ty (by decide +kernel)) (kit_ty (by decide +kernel))
      · exact nlt_of (.base (.dK g19)) (kit_ty (by decide +kernel)) (kit_ty (by decide +kernel))
      · exact nlt_of (.base (.dK f19)) (kit_ty (by decide +kernel)) (kit_ty (by decide +kernel))
      · exact nlt_of (.base (.bl _)) (kit_ty (by decide +kernel)) (kit_ty (by decide +kernel))
      · obtain ⟨dx, _, _, _, ic, _⟩ := id c19
        exact ⟨_, .base (.ins ic T.c.cl T.c.ha T.c.hn T.c.htk T.c.hm), T.kCLT⟩
    have kz : ∀ H', Wo Tt H' p (n + 1 + 1 + 1 + 1) → Q (.bl true) H' := fun H' w => kq H' _ (by omega) w
    clear hv3 c19 f19 g19 k19 p19 h18 e18 n18 c17 e17 h16 e16 n16 h15 e15 n15 W18 vl14 h14 W14 kq E18
    have no := o1
    clear o1
    try dsimp only
    tm_at "s"
    refine s_huSz W19.tabs vl19 (fun E1 Ha Q' ea ta rz => ?_) (fun r1 Ha ea ta g1 => ?_)
    · tm_at "s"
      exact ⟨_, rfl, .inl ⟨bt, xs, rfl, .inl (ea _ _ b19 (fun _ z => nomatch z)), xl, .inr ⟨_, v1, rest, xe, hsz, out_of (vl19.exN ea) no, rz⟩⟩⟩
    have W20 := W19.exN ea ta
    tm_at "s"
    refine s_new (Nat.le_of_lt (small1000 (by simp))) fun hh H21 n21 e21 h21 => ?_
    have A1 : HdAt H21 hh [tgS tx] := .one h21 (e21 _ _ g1)
    have W21 := W20.ex e21
    have E21 : ExtN H19 H21 := ea.trans e21.n
    have nh := fun b o (h : H19 b = some o) hc => ne_of_none (ea b o h hc) n21
    try dsimp only
    tm_at "s"
    refine A1.sq ?_
    tm_at "s"
    refine s_huSz W21.tabs (vl19.exN E21) (fun E1 Ha Q' ea ta rz => ?_) (fun r2 Ha ea ta g2 => ?_)
    · have eb := E21.trans ea
      tm_at "s"
      refine ⟨bt, xs, rfl, .inl ⟨.inl (.inl (eb _ _ b19 (fun _ z => nomatch z))), fun t ht => ?_⟩⟩
      have e3 : Ex _ _ := ex_new (o := .tup xs) ht
      have h3 : (upd Ha t (.tup xs)) t = some (.tup xs) := upd_same
      generalize upd Ha t (.tup xs) = H3 at e3 h3 ⊢
      tm_at "s"
      exact ⟨_, rfl, .inl ⟨t, xs, rfl, .inr h3, xl, .inr ⟨_, v1, rest, xe, hsz, out_of (vl19.exN (eb.trans e3.n)) no, rz.ex' e3⟩⟩⟩
    tm_at "s"
    refine (A1.exN ea).put (by simp) g2 fun H23 k23 w23 A2 => ?_
    have E23 : ExtN H19 H23 := fun b o h hc => k23 b o (nh b o h hc) ((E21.trans ea) b o h hc)
    have W23 := w23 _ _ _ (W21.exN ea ta)
    try dsimp only
    tm_at "s"
    refine A2.sq ?_
    tm_at "s"
    refine s_huSz W23.tabs (vl19.exN E23) (fun E1 Ha Q' ea ta rz => ?_) (fun r3 Ha ea ta g3 => ?_)
    · tm_at "s"
      refine s_mkCk ⟨by simp, .inr ⟨[], v1, [], rfl, (fun n hn => nomatch hn), out_of (vl19.exN (E23.trans ea)) no, rz⟩⟩
    tm_at "s"
    refine (A2.exN ea).put (by simp) g3 fun H25 k25 w25 A3 => ?_
    have E25 : ExtN H19 H25 := fun b o h hc => k25 b o (nh b o h hc) ((E23.trans ea) b o h hc)
    have W25 := w25 _ _ _ (W23.exN ea ta)
    try dsimp only
    tm_at "s"
    refine A3.sq ?_
    tm_at "s"
    refine s_huSz W25.tabs (vl19.exN E25) (fun E1 Ha Q' ea ta rz => ?_) (fun r4 Ha ea ta g4 => ?_)
    · tm_at "s"
      refine s_mkCk ⟨by simp, .inr ⟨[3], v1, [.non], rfl, (fun n hn => by rw [List.mem_singleton.mp hn]; unfold siz; decide +kernel), out_of (vl19.exN (E25.trans ea)) no, rz⟩⟩
    tm_at "s"
    refine (A3.exN ea).put (by simp) g4 fun H27 k27 w27 A4 => ?_
    have E27 : ExtN H19 H27 := fun b o h hc => k27 b o (nh b o h hc) ((E25.trans ea) b o h hc)
    have W27 := w27 _ _ _ (W25.exN ea ta)
    try dsimp only
    tm_at "s"
    refine A4.sq ?_
    tm_at "s"
    refine s_huPt (v := .str "sizes") W27.tabs (fun E1 Ha Q' ea ta rz => ?_) (fun r5 Ha ea ta g5 => ?_)
    · tm_at "s"
      exact ⟨_, rfl, .inr ⟨o3.exN (E27.trans ea), rz⟩⟩
    tm_at "s"
    refine (A4.exN ea).put (by simp) g5 fun H29 k29 w29 A5 => ?_
    have E29 : ExtN H19 H29 := fun b o h hc => k29 b o (nh b o h hc) ((E27.trans ea) b o h hc)
    have W29 := w29 _ _ _ (W27.exN ea ta)
    try dsimp only
    tm_at "s"
    refine (vl19.exN E29).repr ?_
    tm_at "s"
    refine s_new (Nat.le_of_lt (small1000 (by simp))) fun c1 K1 m1 f1 j1 => ?_
    tm_at "s"
    refine s_new (Nat.le_of_lt (small1000 (by simp))) fun c2 K2 m2 f2 j2 => ?_
    tm_at "s"
    refine s_repG j2 (by decide) (by decide) (show 1 * 4 ≤ sizeLine by decide +kernel) fun c3 K3 m3 f3 j3 => ?_
    rw [rep_one] at j3
    tm_at "s"
    refine s_new (Nat.le_of_lt (small1000 (by simp))) fun c4 K4 m4 f4 j4 => ?_
    tm_at "s"
    refine s_new (Nat.le_of_lt (small1000 (by simp))) fun c5 K5 m5 f5 j5 => ?_
    tm_at "s"
    refine s_addL (f5 _ _ (f4 _ _ j3)) j5 (show 4 + 1 ≤ sizeLine by decide +kernel) fun c6 K6 m6 f6 j6 => ?_
    have j1' := f6 _ _ (f5 _ _ (f4 _ _ (f3 _ _ (f2 _ _ j1))))
    have D5 : HdAt K6 c6 [tgS tx, tgS tx, tgS tx, tgS tx, pD] := ⟨[c1, c1, c1, c1, c4], j6, j1', j1', j1', j1', f6 _ _ (f5 _ _ j4), trivial⟩
    have f16 := f1.trans (f2.trans (f3.trans (f4.trans (f5.trans f6))))
    have A6 : HdAt K6 hh [tgS tx, tgS tx, tgS tx, tgS tx, pD] := A5.ex f16
    have dpp : ∀ t ∈ [tgS tx, tgS tx, tgS tx, tgS tx, pD], DpAll K K6 t (fD t) := fun t ht => by
      simp only [List.mem_cons, List.not_mem_nil, or_false] at ht
      rcases ht with rfl | rfl | rfl | rfl | rfl <;> exact .cons (.str _) (.cons (.str _) .nil)
    have shd : SeqAt.shaped (.list ([tgS tx, tgS tx, tgS tx, tgS tx, pD].map fun t => .tuple (fD t))) = true := shPairs fun d hd => by
      simp only [List.map_cons, List.map_nil, List.mem_cons, List.not_mem_nil, or_false] at hd
      rcases hd with rfl | rfl | rfl | rfl | rfl
      · exact ⟨_, _, rfl, by decide +kernel, ok1⟩
      · exact ⟨_, _, rfl, by decide +kernel, ok1⟩
      · exact ⟨_, _, rfl, by decide +kernel, ok1⟩
      · exact ⟨_, _, rfl, by decide +kernel, ok1⟩
      · exact ⟨_, _, rfl, by decide +kernel, by decide +kernel⟩
    refine .inr (s_eqD (A6.dp dpp) (D5.dp dpp) shd shd ?_)
    rw [SeqAt.eqv_refl (.list ([tgS tx, tgS tx, tgS tx, tgS tx, pD].map fun t => .tuple (fD t))) (SeqAt.canLay_of_shaped shd)]
    exact kz K6 (W29.ex f16)
end
end K09
end
section
local macro_rules | `(tactic| tm_at "s1") => `(tactic| first
  | with_reducible first
    | refine L3.s_seq ?_ | refine L3.s_asg ?_ | refine L3.s_op ?_ | refine L3.s_c ?_ | refine L3.s_cb ?_ | refine L3.s_cons ?_ | refine L3.s_nil ?_ | refine L3.s_test ?_ | refine L3.s_bl ?_
    | refine L3.s_I0 ?_ | refine L3.s_and ?_ | refine L3.s_or ?_ | refine L3.s_not ?_ | refine L3.s_if ?_ | refine L3.s_next ?_ | refine L3.s_ret ?_ | refine L3.s_retN ?_ | refine L3.s_asgS ?_ | refine L3.s_drop ?_
    | refine L3.s_un ?_ | refine L3.s_U ?_ | refine L3.s_int ?_ | refine L3.s_intB ?_ | refine L3.s_abs ?_ | refine L3.s_andV ?_ | refine L3.s_orV ?_ | refine L3.s_notV ?_ | refine L3.s_ifE ?_ | refine L3.s_call ?_ | refine L3.s_lst ?_ | refine L3.s_tup ?_ | refine L3.s_tB ?_
    | refine L3.s_addI ?_ | refine L3.s_inS ?_ | refine L3.s_ninS ?_ | refine L3.s_slice ?_ | refine L3.s_part ?_ | refine L3.s_partI ?_ | refine L3.s_nopart ?_ | refine L3.s_cI ?_ | refine L3.s_cB ?_ | refine L3.s_chain ?_ | refine L3.s_bm ?_ | refine L3.s_lcS ?_ | refine L3.s_lcR ?_ | refine L3.s_strE ?_
    | refine L2.iteT ?_ | refine L2.iteF ?_ | refine L3.iteNF ?_ | refine L3.iteNT ?_
    | refine L3.s_eqI ?_ | refine L3.s_neI ?_ | refine L3.s_eqS ?_ | refine L3.s_neS ?_
    | refine L3.s_pair ?_ | refine L3.s_pair2 ?_ | refine L3.s_fld ?_ | refine L3.s_make ?_ | refine L3.s_m1 ?_ | refine L3.s_isstr ?_
    | refine L3.s_xfV ?_ | refine L3.s_lstN ?_ | refine L3.s_callF ?_ | refine L3.s_lcL ?_ | refine L3.s_par3 ?_ | refine L3.s_trip ?_ | refine L3.s_asgT' ?_ | refine L3.s_gC ?_ | refine L3.s_gN ?_ | refine L3.s_fldG ?_ | refine L3.s_raise1 ?_ | refine L3.s_raise2 ?_ | refine L3.s_star ?_ | refine L3.s_mkCR ?_ | refine L3.s_lcZ ?_ | refine L3.s_forL ?_ | refine L3.s_forT ?_ | refine L3.s_gNm ?_ | refine L3.s_forE ?_ | refine L3.s_stC ?_ | refine L3.s_cmC ?_ | refine L3.s_forR1 ?_ | refine L3.s_lcTp ?_ | refine L3.s_forZ ?_ | refine L3.s_orT ?_ | refine L3.s_mt ?_ | refine L3.s_revT ?_ | refine L3.s_revL ?_ | refine L3.s_slOwn ?_ | refine L3.s_sl3 ?_ | refine L3.s_lcO ?_ | refine L3.s_stR ?_
    | refine L3.s_isN ?_ | refine L3.s_isB ?_ | refine L3.s_nisN ?_ | refine L3.s_nisB ?_
  | ((with_reducible refine' L3.s_var ?e ?_); (case e => rfl))
  | ((with_reducible refine' L3.s_aug ?e ?_); (case e => rfl))
  | ((with_reducible refine' L3.s_pow ?c ?_); (case c => exact ⟨by decide, by decide, by decide⟩)))
local macro_rules | `(tactic| tm_at "s") => `(tactic| repeat tm_at "s1")
namespace K09
open PySem PySem.NumText PySem.Spec PyProof.Rows L2 L3 LamX RZ ClX ItX
abbrev s_law : Stmt := topS 39
theorem sc_law : FnScope ["_law_script", "_law_pen_here", "_law_turn", "_law_sizes_here", "_law_made_here", "_law_heard_here", "_law_most"] ["_law_script"] (defScope s_law) := ⟨rfl, rfl, rfl, by decide +kernel, rfl, by decide +kernel, by decide +kernel⟩
abbrev lamQ3 : Str := (("law" : Str) ++ ".<locals>.") ++ "<lambda>"
section
variable {P : Program} {w : World} {K : PySem.W.Frag} {mg : Str → Option Value} {base : Heap} {C CB CC CM CL CT CN CW : Addr}
def spLaw (K : PySem.W.Frag) (TT : List (Addr × Str)) : Sp := fun vs H Q _ => ∃ a ns, vs = [.ref a] ∧ SqL K H a (ns.map V.int) ∧ (ns : List Int).length ≤ 63 ∧ Tabs TT H ∧ ∀ H', Q (.bl true) H'
def manD : List V := [.str "many", .str "chunks", .int 5000]
def zeD : List V := [.str "size", .str "0"]
def fM : List V → List PyData := fun vs => vs.map fun v => match v with | .str z => .str z | .int i => .int i | _ => .none
def onL : List Int := List.replicate 5001 1
theorem onL_len : onL.length = 5001 := List.length_replicate
theorem onL_siz : ∀ n ∈ onL, siz n := fun n hn => by rw [List.eq_of_mem_replicate hn]; unfold siz; decide +kernel
def grL : List Int := List.replicate 5000 (10 ^ 30)
theorem grL_len : grL.length = 5000 := List.length_replicate
theorem grL_siz : ∀ n ∈ grL, siz n := fun n hn => by rw [List.eq_of_mem_replicate hn]; unfold siz; decide +kernel
theorem sum_rep (n : Nat) (x : Int) : (List.replicate n x).sum = (n : Int) * x := by
  induction n with
  | zero => simp
  | succ n ih => rw [List.replicate_succ, List.sum_cons, ih, Int.natCast_succ, Int.add_mul, Int.one_mul, Int.add_comm]
theorem grL_last : (restsOf grL)[4999]? = some (10 ^ 30) := by
  have hl : 4999 < grL.length := by rw [grL_len]; decide
  have h1 := endsOf_get (ns := grL) (i := 4999) hl
  rw [show (4999 : Nat) + 1 = grL.length by rw [grL_len], List.take_length] at h1
  unfold restsOf
  rw [List.getElem?_map, List.getElem?_range hl]
  show some (grL.sum - (endsOf grL).getD 4999 0 + grL.getD 4999 0) = _
  rw [List.getD_eq_getElem?_getD, h1, List.getD_eq_getElem?_getD, show grL[4999]? = some (10 ^ 30) from List.getElem?_replicate_of_lt (by decide)]
  show some (grL.sum - grL.sum + 10 ^ 30) = _
  rw [Int.sub_self, Int.zero_add]
theorem ok_law {f c Pt : Addr} {fd : FuncData} (F : FunC K "law" "law" s_law c f fd) (TB : TabB base mg c Pt) {Tt : List (Addr × Str)} (hmT : (Pt, lamQ3) ∈ Tt) (huT : ∀ p ∈ Tt, p.1 = Pt → p.2 = lamQ3) (T : Txt K mg C CB CC CM CL CT CN CW) (F5 : Kit5 K CB CC CM CT CN) (FH : HeF K mg)
    (cr : CRead K C (.type "type")) (cv : ∃ u, CVal K C (.type "type") "MOST" (.int 5000) u)
    (c__law_pen : Fn P w K mg base CX0 1 "_law_pen" ["_law_script"] (spPen K)) (c__law_sizes : Fn P w K mg base CX0 3 "_law_sizes" ["_law_pen_here", "_law_most"] spSizes)
    (c__law_made : Fn P w K mg base CX0 9 "_law_made" ["_law_pen_here", "_law_sizes_here"] (spMade C)) (c__law_parts_right : Fn P w K mg base CX0 9 "_law_parts_right" ["_law_made_here", "_law_sizes_here"] (spParts C))
    (c__law_asked_right : Fn P w K mg base CX0 14 "_law_asked_right" ["_law_pen_here", "_law_made_here", "_law_sizes_here"] (spAsk Tt C)) (c__law_equal_right : Fn P w K mg base CX0 11 "_law_equal_right" ["_law_pen_here", "_law_made_here", "_law_sizes_here"] (spEqR Tt C))
    (c__law_refused_right : Fn P w K mg base CX0 14 "_law_refused_right" ["_law_pen_here", "_law_sizes_here"] (spRefR Tt))
    (st_of : StM P w K mg base (L2.CX P w) 7 C "of" ["sizes"] (spOf K C CB CC CM)) (me_len : Me P w K mg base C "__len__" 1 ["self"] (spLenC C)) :
    FnG P w K mg base CX0 16 f fd ["_law_script"] (spLaw K Tt) := by
  refine funGC F sc_law (fun vs H Q E h => ?_) (fun A fr s H vs Q E hr hg h => ?_)
  · obtain ⟨a, ns, rfl, _⟩ := h; rfl
  · obtain ⟨a, ns, rfl, hs, hl, ht, k⟩ := h
    refine ⟨_, (pss_cons (ps_set (i := 1) sc_law.nd rfl (Or.inl rfl) (pe_f c__law_pen hr hg pass0 (pa_cons (pv 0) pa_nil)))
      (pss_cons (ps_for (passes_of rfl) rfl (pi_range1 (by rfl) T.b_range (pa_cons pe_int pa_nil)) (pg_name (i := 2) sc_law.nd rfl (Or.inl rfl)) (pss_cons (ps_set (i := 3) sc_law.nd rfl (Or.inl rfl) (pe_f c__law_sizes hr hg pass0 (pa_cons (pv 1) (pa_cons pe_int pa_nil))))
      (pss_cons (ps_set (i := 4) sc_law.nd rfl (Or.inl rfl) (pe_f c__law_made hr hg pass0 (pa_cons (pv 1) (pa_cons (pv 3) pa_nil))))
      (pss_cons (ps_if (PW.pt (pw_or (pt_not (pt_val (pe_f c__law_parts_right hr hg pass0 (pa_cons (pv 4) (pa_cons (pv 3) pa_nil))))) (pw_or1 (pt_not (pt_val (pe_f c__law_asked_right hr hg pass0 (pa_cons (pv 1) (pa_cons (pv 4) (pa_cons (pv 3) pa_nil))))))))) (pss_one (ps_ret pe_bl)) pss_nil)
      (pss_one (ps_if (PW.pt (pw_or (pt_not (pt_val (pe_f c__law_equal_right hr hg pass0 (pa_cons (pv 1) (pa_cons (pv 4) (pa_cons (pv 3) pa_nil)))))) (pw_or1 (pt_not (pt_val (pe_f c__law_refused_right hr hg pass0 (pa_cons (pv 1) (pa_cons (pv 3) pa_nil)))))))) (pss_one (ps_ret pe_bl)) pss_nil))))))
      (pss_cons (ps_set (i := 5) sc_law.nd rfl (Or.inl rfl) (pe_lst (pa_cons (pe__law_heard FH T F5 TB hg hr hmT huT (lamS_by (sc := defScope s_law) (by decide +kernel)) (fun A outer s H E f c' hr' => (pe_st st_of hr' (passT (takes_of rfl rfl rfl rfl) (fun _ _ _ _ h => h)) (C8.pe_gc (by rfl) T.g_Chunks) (pa_cons (pe_op opMul (pe_lst (pa_cons pe_int pa_nil)) pe_int) pa_nil)))) pa_nil)))
      (pss_cons (ps_expr (pe_bm PySem.F.plainAttrs_list PySem.F.slot_list_append PySem.F.type_list_append mt_append (pv 5) (pa_cons (pe__law_heard FH T F5 TB hg hr hmT huT (lamS_by (sc := defScope s_law) (by decide +kernel)) (fun A outer s H E f c' hr' => (pe_st st_of hr' (passT (takes_of rfl rfl rfl rfl) (fun _ _ _ _ h => h)) (C8.pe_gc (by rfl) T.g_Chunks) (pa_cons (pe_op opAdd (pe_op opMul (pe_lst (pa_cons pe_int pa_nil)) pe_int) (pe_lst (pa_cons pe_int pa_nil))) pa_nil)))) pa_nil)))
      (pss_cons (ps_if (PW.pt (pw_or (pt_cmpR (KX.neU (K := K) rfl hr.units) (pv 5) (pe_lst (pa_cons (pe_tup (pa_cons pe_str (pa_cons pe_str (pa_cons pe_int pa_nil)))) (pa_cons (pe_tup (pa_cons pe_str (pa_cons pe_str pa_nil))) pa_nil))) (nomark _)) (pw_or1 (pt_cmpR (KX.neU (K := K) rfl hr.units) (pe_cval (C8.pe_gc (by rfl) T.g_Chunks)) pe_int (nomark _))))) (pss_one (ps_ret pe_bl)) pss_nil)
      (pss_cons (ps_set (i := 6) sc_law.nd rfl (Or.inl rfl) (pe_st st_of hr passF (C8.pe_gc (by rfl) T.g_Chunks) (pa_cons (pe_op opMul (pe_lst (pa_cons (pe_op op_pow pe_int pe_int) pa_nil)) pe_int) pa_nil)))
      (pss_one (ps_ret (pe_and (pe_cmpR (KX.eqU (K := K) rfl hr.units) (KX.fld (K := K) rfl (pv 6) rfl) (pe_op opMul pe_int (pe_op op_pow pe_int pe_int)) (nomark _)) (pe_and (pe_cmpR (KX.eqU (K := K) rfl hr.units) (pe_ix (KX.ixU (K := K)) (KX.fld (K := K) rfl (pv 6) rfl) pe_int (fun _ _ => rfl)) (pe_op op_pow pe_int pe_int) (nomark _)) (pe_one (pe_cmpR (KX.eqU (K := K) rfl hr.units) (pe_callB (callLenOwn me_len hr passF) (by rfl) T.b_len (by decide +kernel) (pa_cons (pv 6) pa_nil)) pe_int (nomark _))))))))))))), ?_⟩
    tm_at "s"
    refine ⟨a, ns, rfl, hs, hl, fun p H1 hp e1 p1 => ?_⟩
    have W1 : Wo Tt H1 p 0 := ⟨p1, ht.ext e1⟩
    try dsimp only
    tm_at "s"
    refine ⟨by decide, by decide, ?_⟩
    refine forRg (n := 6) (fun i σ H' => (∃ v2 v3 v4, σ = [some (.ref a), some (.ref p), v2, v3, v4, none, none]) ∧ ∃ m', m' ≤ 1000 * i ∧ Wo Tt H' p m') ⟨⟨_, _, _, rfl⟩, 0, by omega, W1⟩ ?_ ?_
    · rintro i _ H2 hi ⟨⟨v2, v3, v4, rfl⟩, m', hm', W2⟩
      refine s_gNm ?_
      try dsimp only
      tm_at "s"
      refine ⟨p, m', 8, rfl, by decide, by decide, W2.pen, by unfold lim; omega, fun l1 H3 m3 ns hm3 nl1 k3 p3 h3 hs3 hn3 => ?_⟩
      have W3 := W2.keep p3 k3
      tm_at "s"
      refine ⟨p, l1, m3, ns, rfl, W3.pen, by unfold lim; omega, h3, hs3, by omega, fun q H4 m4 hm4 k4 p4 c4 => ?_⟩
      have W4 := W3.keep p4 k4
      have g4 := lst_keep h3 W3.pen k4
      try dsimp only
      tm_at "s"
      refine ⟨q, l1, ns, rfl, c4, g4, hs3, by omega, fun H5 e5 => ?_⟩
      have W5 := W4.ex e5
      have c5 := c4.ex e5
      have g5 := e5 _ _ g4
      tm_at "s"
      refine ⟨p, q, l1, m4, ns, rfl, W5, by unfold lim; omega, c5, g5, hs3, by omega, fun H6 m6 hm6 W6 k6 => ?_⟩
      have c6 : Ck C H6 q ns := by
        obtain ⟨dx, t1, t2, t3, a1, a2, a3, a4⟩ := c5
        have kk : ∀ b o, H5 b = some o → (∀ ps, o ≠ .tbl ps) → (∀ c n, o ≠ PenO p c n) → H6 b = some o := fun b o h h1 h2 => k6 b o (fun z => by
          obtain ⟨cc, hc⟩ := W5.pen.at
          rw [z, hc] at h
          exact h2 _ _ (Option.some.inj h).symm) h h1
        exact ⟨dx, t1, t2, t3, kk _ _ a1 (fun _ z => nomatch z) (fun _ _ z => by unfold PenO at z; cases z), kk _ _ a2 (fun _ z => nomatch z) (fun _ _ z => by unfold PenO at z; cases z), kk _ _ a3 (fun _ z => nomatch z) (fun _ _ z => by unfold PenO at z; cases z), kk _ _ a4 (fun _ z => nomatch z) (fun _ _ z => by unfold PenO at z; cases z)⟩
      have np : l1 ≠ p := fun z => by
        obtain ⟨cc, hc⟩ := W5.pen.at
        rw [z, hc] at g5
        unfold PenO at g5
        cases g5
      have g6 := k6 _ _ np g5 (fun _ z => nomatch z)
      tm_at "s"
      refine ⟨p, q, l1, m6, ns, rfl, W6, by unfold lim; omega, c6, g6, hs3, by omega, fun H7 m7 hm7 W7 k7 => ?_⟩
      have g7 := k7 _ _ np g6
      tm_at "s"
      refine ⟨p, l1, m7, ns, rfl, W7, by unfold lim; omega, g7, hs3, by omega, fun H8 m8 hm8 W8 => ?_⟩
      tm_at "s"
      exact ⟨⟨_, _, _, rfl⟩, m8, by omega, W8⟩
    · rintro _ H2 ⟨⟨v2, v3, v4, rfl⟩, m', hm', W2⟩
      try dsimp only
      tm_at "s"
      refine s_huMy (v1 := .str "chunks") (v2 := .int 5000) W2.tabs (fun E1 Ha Q' ea ta rz => ?_) (fun r1 H3 e3 t3 g1 => ?_)
      · tm_at "s"
        refine s_new (Nat.le_of_lt (small1000 (by simp))) fun z1 H3 n3 e3 h3 => ?_
        tm_at "s"
        refine s_repG h3 (by decide) (by decide) (show 1 * 5001 ≤ sizeLine by decide +kernel) fun z2 H4 n4 e4 h4 => ?_
        rw [rep_one, show List.replicate (5001 : Int).toNat (V.int 1) = onL.map V.int by unfold onL; rw [List.map_replicate]; rfl] at h4
        exact ⟨_, rfl, .inl ⟨z2, _, rfl, .inl h4, by rw [List.length_map, onL_len]; decide, .inl ⟨onL, rfl, onL_siz, .inr ⟨by rw [onL_len]; decide, rz.ex (e3.trans e4)⟩⟩⟩⟩
      have W3 := W2.exN e3 t3
      tm_at "s"
      refine s_new (Nat.le_of_lt (small1000 (by simp))) fun hh H4 n4 e4 h4 => ?_
      have A1 : HdAt H4 hh [manD] := .one h4 (e4 _ _ g1)
      have W4 := W3.ex e4
      try dsimp only
      tm_at "s"
      refine A1.sq ?_
      tm_at "s"
      refine s_huSz (v := .int 0) (tx := (PyData.int 0).shown) W4.tabs (.int 0 (by decide) (by decide +kernel)) (fun E1 Ha Q' ea ta rz => ?_) (fun r2 Ha ea ta g2 => ?_)
      · tm_at "s"
        refine s_new (Nat.le_of_lt (small1000 (by simp))) fun z1 H5 n5 e5 h5 => ?_
        tm_at "s"
        refine s_repG h5 (by decide) (by decide) (show 1 * 5001 ≤ sizeLine by decide +kernel) fun z2 H6 n6 e6 h6 => ?_
        rw [rep_one, show List.replicate (5001 : Int).toNat (V.int 1) = onL.map V.int by unfold onL; rw [List.map_replicate]; rfl] at h6
        tm_at "s"
        refine s_new (Nat.le_of_lt (small1000 (by simp))) fun z3 H7 n7 e7 h7 => ?_
        tm_at "s"
        refine s_addL (e7 _ _ h6) h7 (Nat.le_of_lt (sz_of (by rw [List.length_map, onL_len]; decide))) fun z4 H8 n8 e8 h8 => ?_
        exact ⟨_, rfl, .inl ⟨z4, _, rfl, .inl h8, by rw [List.length_append, List.length_map, onL_len]; decide, .inr ⟨onL, .int 0, [], rfl, onL_siz, .inr ⟨0, rfl, by decide⟩, rz.ex' (e5.trans (e6.trans (e7.trans e8)))⟩⟩⟩
      tm_at "s"
      rw [show (PyData.int 0).shown = ("0" : Str) by decide +kernel] at g2
      refine (A1.exN ea).put (by decide) g2 fun H6 k6 w6 A2 => ?_
      have W6 := w6 _ _ _ (W4.exN ea ta)
      try dsimp only
      tm_at "s"
      refine s_new (Nat.le_of_lt (small1000 (by simp))) fun c1 K1 m1 f1 j1 => ?_
      tm_at "s"
      refine s_new (Nat.le_of_lt (small1000 (by simp))) fun c2 K2 m2 f2 j2 => ?_
      tm_at "s"
      refine s_new (Nat.le_of_lt (small1000 (by simp))) fun c3 K3 m3 f3 j3 => ?_
      have D3 : HdAt K3 c3 [manD, zeD] := ⟨[c1, c2], j3, f3 _ _ (f2 _ _ j1), f3 _ _ j2, trivial⟩
      have f13 := f1.trans (f2.trans f3)
      have A6 : HdAt K3 hh [manD, zeD] := A2.ex f13
      have dpp : ∀ t ∈ [manD, zeD], DpAll K K3 t (fM t) := fun t ht => by
        simp only [List.mem_cons, List.not_mem_nil, or_false] at ht
        rcases ht with rfl | rfl
        · exact .cons (.str _) (.cons (.str _) (.cons (.int _) .nil))
        · exact .cons (.str _) (.cons (.str _) .nil)
      have shd : SeqAt.shaped (.list ([manD, zeD].map fun t => .tuple (fM t))) = true := by decide +kernel
      refine .inr (s_neD (A6.dp dpp) (D3.dp dpp) shd shd ?_)
      rw [SeqAt.eqv_refl (.list ([manD, zeD].map fun t => .tuple (fM t))) (SeqAt.canLay_of_shaped shd)]
      obtain ⟨u, cv⟩ := cv
      tm_at "s"
      refine ⟨C, _, _, u, rfl, cr, cv, ?_⟩
      tm_at "s"
      refine iteND (fun z => absurd rfl z) (fun _ => ?_)
      tm_at "s"
      refine s_new (Nat.le_of_lt (small1000 (by simp))) fun z1 H7 n7 e7 h7 => ?_
      tm_at "s"
      refine s_repG h7 (by decide) (by decide) (show 1 * 5000 ≤ sizeLine by decide +kernel) fun z2 H8 n8 e8 h8 => ?_
      rw [rep_one, show List.replicate (5000 : Int).toNat (V.int (10 ^ (30 : Int).toNat)) = grL.map V.int by unfold grL; rw [List.map_replicate]; rfl] at h8
      tm_at "s"
      refine ⟨_, rfl, .inl ⟨z2, _, rfl, .inl h8, by rw [List.length_map, grL_len]; decide, .inl ⟨grL, rfl, grL_siz, .inl ⟨by rw [grL_len]; decide, fun q H9 e9 c9 => ?_⟩⟩⟩⟩
      obtain ⟨dx, t1, t2, t3, i9, u1, u2, u3⟩ := id c9
      try dsimp only
      tm_at "s"
      refine ⟨q, C, dx, _, _, rfl, i9, T.c.cl, T.nT, rfl, ?_⟩
      tm_at "s"
      refine s_mulI (mulL (by decide +kernel)) ?_
      tm_at "s"
      rw [decide_eq_true (show grL.sum = 5000 * 10 ^ (30 : Int).toNat by unfold grL; rw [sum_rep]; rfl)]
      tm_at "s"
      refine ⟨q, C, dx, _, _, rfl, i9, T.c.cl, T.nR, rfl, ?_⟩
      tm_at "s"
      refine s_iT u3 (L3.atI_nat (show ((restsOf grL).map V.int)[4999]? = some (V.int (10 ^ 30)) by rw [List.getElem?_map, grL_last]; rfl)) ?_
      tm_at "s"
      rw [decide_eq_true (show (10 : Int) ^ 30 = 10 ^ (30 : Int).toNat from rfl)]
      tm_at "s"
      refine ⟨q, dx, _, rfl, i9, q, _, rfl, c9, _, rfl, by omega, by rw [grL_len]; decide, ?_⟩
      rw [grL_len]
      tm_at "s"
      exact k _
end
end K09
end
section
namespace K09
open PySem PySem.Spec PyProof.Rows L2 L3 LamX
abbrev s_BadSize___init__ : Stmt := inClass (topS 8) 0
theorem ns_BadSize : NdefX.NScope ["self", "value", "__class__"] ["self", "value"] ["__class__"] (defScope s_BadSize___init__) := NdefX.nscope_by (by decide +kernel)
theorem ok_BadSize {P : Program} {w : World} {K : PySem.W.Frag} {mg : Str → Option Value} {base : Heap} {C f cda cc : Addr} {kV doc pm ct oc : Value} {an od : Option Addr} {osl : Array (Option Value)}
    (lk : K.lookup f = some ⟨oc, od, .func (PySem.W.fnX "__init__" "BadSize.__init__" (defArgs s_BadSize___init__) (defBody s_BadSize___init__) (defScope s_BadSize___init__) [("__class__", cc)] .none kV doc pm an (.ref cda) ct), osl⟩) (hcd : PySem.W.codeIn K (.ref cda) "BadSize.__init__" = true)
    (T : SupF P K mg C f cda cc (defScope s_BadSize___init__)) (n1 : PySem.W.findIn K (.ref C) "value" = some none) :
    FnOk P w K mg base CX0 1 f (PySem.W.fnX "__init__" "BadSize.__init__" (defArgs s_BadSize___init__) (defBody s_BadSize___init__) (defScope s_BadSize___init__) [("__class__", cc)] .none kV doc pm an (.ref cda) ct) ["self", "value"] (spErr1 C "value") :=
  okErr1 (g1 := "value") (x := "value") rfl lk hcd T ns_BadSize rfl rfl (fun env _ => ⟨_, rfl⟩) (by decide) (by decide) n1 (fun env _ => rfl)
abbrev s_BadTotal___init__ : Stmt := inClass (topS 9) 0
abbrev s_BadChunks___init__ : Stmt := inClass (topS 10) 0
theorem ns_BadChunks : NdefX.NScope ["self", "part", "__class__"] ["self", "part"] ["__class__"] (defScope s_BadChunks___init__) := NdefX.nscope_by (by decide +kernel)
theorem ok_BadChunks {P : Program} {w : World} {K : PySem.W.Frag} {mg : Str → Option Value} {base : Heap} {C f cda cc : Addr} {kV doc pm ct oc : Value} {an od : Option Addr} {osl : Array (Option Value)}
    (lk : K.lookup f = some ⟨oc, od, .func (PySem.W.fnX "__init__" "BadChunks.__init__" (defArgs s_BadChunks___init__) (defBody s_BadChunks___init__) (defScope s_BadChunks___init__) [("__class__", cc)] .none kV doc pm an (.ref cda) ct), osl⟩) (hcd : PySem.W.codeIn K (.ref cda) "BadChunks.__init__" = true)
    (T : SupF P K mg C f cda cc (defScope s_BadChunks___init__)) (n1 : PySem.W.findIn K (.ref C) "part" = some none) :
    FnOk P w K mg base CX0 1 f (PySem.W.fnX "__init__" "BadChunks.__init__" (defArgs s_BadChunks___init__) (defBody s_BadChunks___init__) (defScope s_BadChunks___init__) [("__class__", cc)] .none kV doc pm an (.ref cda) ct) ["self", "part"] (spErr1 C "part") :=
  okErr1 (g1 := "part") (x := "part") rfl lk hcd T ns_BadChunks rfl rfl (fun env _ => ⟨_, rfl⟩) (by decide) (by decide) n1 (fun env _ => rfl)
abbrev s_TooMany___init__ : Stmt := inClass (topS 13) 0
theorem ns_TooMany : NdefX.NScope ["self", "what", "most", "__class__"] ["self", "what", "most"] ["__class__"] (defScope s_TooMany___init__) := NdefX.nscope_by (by decide +kernel)
theorem ok_TooMany {P : Program} {w : World} {K : PySem.W.Frag} {mg : Str → Option Value} {base : Heap} {C f cda cc : Addr} {kV doc pm ct oc : Value} {an od : Option Addr} {osl : Array (Option Value)}
    (lk : K.lookup f = some ⟨oc, od, .func (PySem.W.fnX "__init__" "TooMany.__init__" (defArgs s_TooMany___init__) (defBody s_TooMany___init__) (defScope s_TooMany___init__) [("__class__", cc)] .none kV doc pm an (.ref cda) ct), osl⟩) (hcd : PySem.W.codeIn K (.ref cda) "TooMany.__init__" = true)
    (T : SupF P K mg C f cda cc (defScope s_TooMany___init__)) (n1 : PySem.W.findIn K (.ref C) "what" = some none) (n2 : PySem.W.findIn K (.ref C) "most" = some none) :
    FnOk P w K mg base CX0 1 f (PySem.W.fnX "__init__" "TooMany.__init__" (defArgs s_TooMany___init__) (defBody s_TooMany___init__) (defScope s_TooMany___init__) [("__class__", cc)] .none kV doc pm an (.ref cda) ct) ["self", "what", "most"] (spErr2 C "what" "most") :=
  okErr2 (g1 := "what") (g2 := "most") (x := "what") (y := "most") rfl lk hcd T ns_TooMany rfl rfl (fun env _ => ⟨_, rfl⟩) (by decide) (by decide) (by decide) (by decide) n1 n2 (fun env _ => rfl) (fun env _ => rfl)
abbrev s_NoChunk___init__ : Stmt := inClass (topS 12) 0
theorem ns_NoChunk : NdefX.NScope ["self", "at", "__class__"] ["self", "at"] ["__class__"] (defScope s_NoChunk___init__) := NdefX.nscope_by (by decide +kernel)
theorem ok_NoChunk {P : Program} {w : World} {K : PySem.W.Frag} {mg : Str → Option Value} {base : Heap} {C f cda cc : Addr} {kV doc pm ct oc : Value} {an od : Option Addr} {osl : Array (Option Value)}
    (lk : K.lookup f = some ⟨oc, od, .func (PySem.W.fnX "__init__" "NoChunk.__init__" (defArgs s_NoChunk___init__) (defBody s_NoChunk___init__) (defScope s_NoChunk___init__) [("__class__", cc)] .none kV doc pm an (.ref cda) ct), osl⟩) (hcd : PySem.W.codeIn K (.ref cda) "NoChunk.__init__" = true)
    (T : SupF P K mg C f cda cc (defScope s_NoChunk___init__)) (n1 : PySem.W.findIn K (.ref C) "at" = some none) :
    FnOk P w K mg base CX0 1 f (PySem.W.fnX "__init__" "NoChunk.__init__" (defArgs s_NoChunk___init__) (defBody s_NoChunk___init__) (defScope s_NoChunk___init__) [("__class__", cc)] .none kV doc pm an (.ref cda) ct) ["self", "at"] (spErr1 C "at") :=
  okErr1 (g1 := "at") (x := "at") rfl lk hcd T ns_NoChunk rfl rfl (fun env _ => ⟨_, rfl⟩) (by decide) (by decide) n1 (fun env _ => rfl)
abbrev s_BadText___init__ : Stmt := inClass (topS 11) 0
end K09
end
section
namespace K09
open PySem PySem.Spec PyProof.Rows L2 L3 LamX
theorem fnMk {P : Program} {w : World} {K : PySem.W.Frag} {mg : Str → Option Value} {base : Heap} {CX : CXT} {k : Nat} {x qual : Str} {st : Stmt} {f : Addr} {fd : FuncData} {ps : List Str} {sp : Sp} (F : Fun K x qual st f fd) (ok : FnG P w K mg base CX k f fd ps sp) (m : mg x = some (.ref f))
    (hb : ∀ (kV doc pm : Value) (an : Option Addr) (cdv ct : Value) (us : List Value), us.length = ps.length → bindArgs (PySem.W.fnOf x qual (defArgs st) (defBody st) (defScope st) .none kV doc pm an cdv ct) ⟨us, []⟩ = pure (ps.zip us))
    (hk : ∀ (kV doc pm : Value) (an : Option Addr) (cdv ct : Value) (us : List Value), us.length = ps.length → bindArgs (PySem.W.fnOf x qual (defArgs st) (defBody st) (defScope st) .none kV doc pm an cdv ct) ⟨[], ps.zip us⟩ = pure (ps.zip us)) : Fn P w K mg base CX k x ps sp := by
  have kp := F.kp
  obtain ⟨oc, od, kV, doc, pm, an, cd, ct, sl, rfl, lk, hcd⟩ := F.ex
  exact ⟨⟨f, _, ok, m, kp, .all (hb kV doc pm an cd ct), fun s ws _ hl => .of_eq (hk kV doc pm an cd ct ws hl)⟩⟩
theorem bMk {K : PySem.W.Frag} {x qual : Str} {st : Stmt} {f : Addr} {fd : FuncData} {ps : List Str} (F : Fun K x qual st f fd)
    (hb : ∀ (kV doc pm : Value) (an : Option Addr) (cdv ct : Value) (us : List Value), us.length = ps.length → bindArgs (PySem.W.fnOf x qual (defArgs st) (defBody st) (defScope st) .none kV doc pm an cdv ct) ⟨us, []⟩ = pure (ps.zip us)) : L2.Binds K fd ps [] := by
  obtain ⟨oc, od, kV, doc, pm, an, cd, ct, sl, rfl, lk, hcd⟩ := F.ex
  exact .all (hb kV doc pm an cd ct)
theorem bkMk {K : PySem.W.Frag} {x qual : Str} {st : Stmt} {f : Addr} {fd : FuncData} {ps : List Str} (F : Fun K x qual st f fd)
    (hk : ∀ (kV doc pm : Value) (an : Option Addr) (cdv ct : Value) (us : List Value), us.length = ps.length → bindArgs (PySem.W.fnOf x qual (defArgs st) (defBody st) (defScope st) .none kV doc pm an cdv ct) ⟨[], ps.zip us⟩ = pure (ps.zip us)) : ∀ (s : Shared) (ws : List Value), K.In s.heap → ws.length = ps.length → BindsTo s fd ⟨[], ps.zip ws⟩ (ps.zip ws) := by
  obtain ⟨oc, od, kV, doc, pm, an, cd, ct, sl, rfl, lk, hcd⟩ := F.ex
  exact fun s ws _ hl => .of_eq (hk kV doc pm an cd ct ws hl)
theorem tab0 {H : Hp} {Pt : Addr} {q : Str} (h : H Pt = some (.tbl #[])) : TabS H Pt q := ⟨#[], h, trivial, fun pos cv hc => nomatch hc⟩
theorem tt_uniq : ∀ {ps : List (Addr × Str)} (h : (ps.map (·.1)).Nodup) {p q : Addr × Str} (hp : p ∈ ps) (hq : q ∈ ps) (e : p.1 = q.1), p.2 = q.2
  | [], _, _, _, hp, _, _ => nomatch hp
  | a :: r, h, p, q, hp, hq, e => by
    rw [List.map_cons, List.nodup_cons] at h
    rcases List.mem_cons.mp hp with e1 | hp1
    · rcases List.mem_cons.mp hq with e2 | hq1
      · rw [e1, e2]
      · exact (h.1 (List.mem_map.mpr ⟨q, hq1, by rw [← e1, e]⟩)).elim
    · rcases List.mem_cons.mp hq with e2 | hq1
      · exact (h.1 (List.mem_map.mpr ⟨p, hp1, by rw [← e2, e]⟩)).elim
      · exact tt_uniq h.2 hp1 hq1 e
theorem all_mk {l : PySem.W.OpenLaw} {w : World} {K : PySem.W.Frag} {h : Heap} {mg : Str → Option Value} {fa C CB CC CM CL CT CN CW ct0 Pt ctt1 Pt1 ctt2 Pt2 : Addr} (X : K.In h) (G : h.Ns mainGlobals mg) (hfa : mg "law" = some (.ref fa))
    {f1 : Addr} {od1 an1 : Option Addr} {sl1 : Array (Option Value)} {oc1 kV1 dc1 pm1 cd1 ct1 : Value}
    {f2 : Addr} {od2 an2 : Option Addr} {sl2 : Array (Option Value)} {oc2 kV2 dc2 pm2 cd2 ct2 : Value}
    {f3 : Addr} {od3 an3 : Option Addr} {sl3 : Array (Option Value)} {oc3 kV3 dc3 pm3 cd3 ct3 : Value}
    {f4 : Addr} {od4 an4 : Option Addr} {sl4 : Array (Option Value)} {oc4 kV4 dc4 pm4 cd4 ct4 : Value}
    {f5 : Addr} {od5 an5 : Option Addr} {sl5 : Array (Option Value)} {oc5 kV5 dc5 pm5 cd5 ct5 : Value}
    {f6 : Addr} {od6 an6 : Option Addr} {sl6 : Array (Option Value)} {oc6 kV6 dc6 pm6 cd6 ct6 : Value}
    {f7 : Addr} {od7 an7 : Option Addr} {sl7 : Array (Option Value)} {oc7 kV7 dc7 pm7 cd7 ct7 : Value}
    {f8 : Addr} {od8 an8 : Option Addr} {sl8 : Array (Option Value)} {oc8 kV8 dc8 pm8 cd8 ct8 : Value}
    {f9 : Addr} {od9 an9 : Option Addr} {sl9 : Array (Option Value)} {oc9 kV9 dc9 pm9 cd9 ct9 : Value}
    {f10 : Addr} {od10 an10 : Option Addr} {sl10 : Array (Option Value)} {oc10 kV10 dc10 pm10 cd10 ct10 : Value}
    {f11 : Addr} {od11 an11 : Option Addr} {sl11 : Array (Option Value)} {oc11 kV11 dc11 pm11 cd11 ct11 : Value}
    {f12 : Addr} {od12 an12 : Option Addr} {sl12 : Array (Option Value)} {oc12 kV12 dc12 pm12 cd12 ct12 : Value}
    {f13 : Addr} {od13 an13 : Option Addr} {sl13 : Array (Option Value)} {oc13 kV13 dc13 pm13 cd13 ct13 : Value}
    {f14 : Addr} {od14 an14 : Option Addr} {sl14 : Array (Option Value)} {oc14 kV14 dc14 pm14 ct14 : Value}
    {f15 : Addr} {od15 an15 : Option Addr} {sl15 : Array (Option Value)} {oc15 kV15 dc15 pm15 cd15 ct15 : Value}
    {f16 : Addr} {od16 an16 : Option Addr} {sl16 : Array (Option Value)} {oc16 kV16 dc16 pm16 ct16 : Value}
    {f17 : Addr} {od17 an17 : Option Addr} {sl17 : Array (Option Value)} {oc17 kV17 dc17 pm17 ct17 : Value}
    {g_C___init__ : Addr} {od_C___init__ an_C___init__ : Option Addr} {sl_C___init__ : Array (Option Value)} {oc_C___init__ kV_C___init__ dc_C___init__ pm_C___init__ cd_C___init__ ct_C___init__ : Value}
    {g_C___eq__ : Addr} {od_C___eq__ an_C___eq__ : Option Addr} {sl_C___eq__ : Array (Option Value)} {oc_C___eq__ kV_C___eq__ dc_C___eq__ pm_C___eq__ cd_C___eq__ ct_C___eq__ : Value}
    {g_C___len__ : Addr} {od_C___len__ an_C___len__ : Option Addr} {sl_C___len__ : Array (Option Value)} {oc_C___len__ kV_C___len__ dc_C___len__ pm_C___len__ cd_C___len__ ct_C___len__ : Value}
    {g_C___str__ : Addr} {od_C___str__ an_C___str__ : Option Addr} {sl_C___str__ : Array (Option Value)} {oc_C___str__ kV_C___str__ dc_C___str__ pm_C___str__ cd_C___str__ ct_C___str__ : Value}
    {g_C___iter__ : Addr} {od_C___iter__ an_C___iter__ : Option Addr} {sl_C___iter__ : Array (Option Value)} {oc_C___iter__ kV_C___iter__ dc_C___iter__ pm_C___iter__ cd_C___iter__ ct_C___iter__ : Value}
    {g_C___contains__ : Addr} {od_C___contains__ an_C___contains__ : Option Addr} {sl_C___contains__ : Array (Option Value)} {oc_C___contains__ kV_C___contains__ dc_C___contains__ pm_C___contains__ cd_C___contains__ ct_C___contains__ : Value}
    {g_C___getitem__ : Addr} {od_C___getitem__ an_C___getitem__ : Option Addr} {sl_C___getitem__ : Array (Option Value)} {oc_C___getitem__ kV_C___getitem__ dc_C___getitem__ pm_C___getitem__ cd_C___getitem__ ct_C___getitem__ : Value}
    {p_C_of : Addr} {rest_C_of : List Value}
    {g_C_of : Addr} {od_C_of an_C_of : Option Addr} {sl_C_of : Array (Option Value)} {oc_C_of kV_C_of dc_C_of pm_C_of cd_C_of ct_C_of : Value}
    {fZB ccZB cdZB : Addr} {odZB anZB cldZB cddZB : Option Addr} {slZB cslZB ccsZB : Array (Option Value)} {ocZB kVZB dcZB pmZB ctZB clZB cclZB : Value} {vsZB : Array Value} {fileZB : Str} {tfZB : Tok}
    {fZT ccZT cdZT : Addr} {odZT anZT cldZT cddZT : Option Addr} {slZT cslZT ccsZT : Array (Option Value)} {ocZT kVZT dcZT pmZT ctZT clZT cclZT : Value} {vsZT : Array Value} {fileZT : Str} {tfZT : Tok}
    {fZC ccZC cdZC : Addr} {odZC anZC cldZC cddZC : Option Addr} {slZC cslZC ccsZC : Array (Option Value)} {ocZC kVZC dcZC pmZC ctZC clZC cclZC : Value} {vsZC : Array Value} {fileZC : Str} {tfZC : Tok}
    {fZM ccZM cdZM : Addr} {odZM anZM cldZM cddZM : Option Addr} {slZM cslZM ccsZM : Array (Option Value)} {ocZM kVZM dcZM pmZM ctZM clZM cclZM : Value} {vsZM : Array Value} {fileZM : Str} {tfZM : Tok}
    {fZN ccZN cdZN : Addr} {odZN anZN cldZN cddZN : Option Addr} {slZN cslZN ccsZN : Array (Option Value)} {ocZN kVZN dcZN pmZN ctZN clZN cclZN : Value} {vsZN : Array Value} {fileZN : Str} {tfZN : Tok}
    {fZW ccZW cdZW : Addr} {odZW anZW cldZW cddZW : Option Addr} {slZW cslZW ccsZW : Array (Option Value)} {ocZW kVZW dcZW pmZW ctZW clZW cclZW : Value} {vsZW : Array Value} {fileZW : Str} {tfZW : Tok}
    {tMS tMC tMI tMF : Tok}
    {tMO : Tok}
    (a1 : PySem.W.nsIn K mainGlobals "is_integer" = some (some (.ref f1)))
    (l1 : K.lookup f1 = some ⟨oc1, od1, .func (PySem.W.fnOf "is_integer" "is_integer" (defArgs s_is_integer) (defBody s_is_integer) (defScope s_is_integer) .none kV1 dc1 pm1 an1 cd1 ct1), sl1⟩)
    (c1 : PySem.W.codeIn K cd1 "is_integer" = true)
    (k1 : PySem.W.keepIn K (.ref f1) = true)
    (a2 : PySem.W.nsIn K mainGlobals "is_within" = some (some (.ref f2)))
    (l2 : K.lookup f2 = some ⟨oc2, od2, .func (PySem.W.fnOf "is_within" "is_within" (defArgs s_is_within) (defBody s_is_within) (defScope s_is_within) .none kV2 dc2 pm2 an2 cd2 ct2), sl2⟩)
    (c2 : PySem.W.codeIn K cd2 "is_within" = true)
    (k2 : PySem.W.keepIn K (.ref f2) = true)
    (a3 : PySem.W.nsIn K mainGlobals "is_size" = some (some (.ref f3)))
    (l3 : K.lookup f3 = some ⟨oc3, od3, .func (PySem.W.fnOf "is_size" "is_size" (defArgs s_is_size) (defBody s_is_size) (defScope s_is_size) .none kV3 dc3 pm3 an3 cd3 ct3), sl3⟩)
    (c3 : PySem.W.codeIn K cd3 "is_size" = true)
    (k3 : PySem.W.keepIn K (.ref f3) = true)
    (a4 : PySem.W.nsIn K mainGlobals "need_size" = some (some (.ref f4)))
    (l4 : K.lookup f4 = some ⟨oc4, od4, .func (PySem.W.fnOf "need_size" "need_size" (defArgs s_need_size) (defBody s_need_size) (defScope s_need_size) .none kV4 dc4 pm4 an4 cd4 ct4), sl4⟩)
    (c4 : PySem.W.codeIn K cd4 "need_size" = true)
    (k4 : PySem.W.keepIn K (.ref f4) = true)
    (a5 : PySem.W.nsIn K mainGlobals "need_few" = some (some (.ref f5)))
    (l5 : K.lookup f5 = some ⟨oc5, od5, .func (PySem.W.fnOf "need_few" "need_few" (defArgs s_need_few) (defBody s_need_few) (defScope s_need_few) .none kV5 dc5 pm5 an5 cd5 ct5), sl5⟩)
    (c5 : PySem.W.codeIn K cd5 "need_few" = true)
    (k5 : PySem.W.keepIn K (.ref f5) = true)
    (a6 : PySem.W.nsIn K mainGlobals "ends_of" = some (some (.ref f6)))
    (l6 : K.lookup f6 = some ⟨oc6, od6, .func (PySem.W.fnOf "ends_of" "ends_of" (defArgs s_ends_of) (defBody s_ends_of) (defScope s_ends_of) .none kV6 dc6 pm6 an6 cd6 ct6), sl6⟩)
    (c6 : PySem.W.codeIn K cd6 "ends_of" = true)
    (k6 : PySem.W.keepIn K (.ref f6) = true)
    (a7 : PySem.W.nsIn K mainGlobals "_law_heard" = some (some (.ref f7)))
    (l7 : K.lookup f7 = some ⟨oc7, od7, .func (PySem.W.fnOf "_law_heard" "_law_heard" (defArgs s__law_heard) (defBody s__law_heard) (defScope s__law_heard) .none kV7 dc7 pm7 an7 cd7 ct7), sl7⟩)
    (c7 : PySem.W.codeIn K cd7 "_law_heard" = true)
    (k7 : PySem.W.keepIn K (.ref f7) = true)
    (a8 : PySem.W.nsIn K mainGlobals "_law_pen" = some (some (.ref f8)))
    (l8 : K.lookup f8 = some ⟨oc8, od8, .func (PySem.W.fnOf "_law_pen" "_law_pen" (defArgs s__law_pen) (defBody s__law_pen) (defScope s__law_pen) .none kV8 dc8 pm8 an8 cd8 ct8), sl8⟩)
    (c8 : PySem.W.codeIn K cd8 "_law_pen" = true)
    (k8 : PySem.W.keepIn K (.ref f8) = true)
    (a9 : PySem.W.nsIn K mainGlobals "_law_draw" = some (some (.ref f9)))
    (l9 : K.lookup f9 = some ⟨oc9, od9, .func (PySem.W.fnOf "_law_draw" "_law_draw" (defArgs s__law_draw) (defBody s__law_draw) (defScope s__law_draw) .none kV9 dc9 pm9 an9 cd9 ct9), sl9⟩)
    (c9 : PySem.W.codeIn K cd9 "_law_draw" = true)
    (k9 : PySem.W.keepIn K (.ref f9) = true)
    (a10 : PySem.W.nsIn K mainGlobals "_law_pick" = some (some (.ref f10)))
    (l10 : K.lookup f10 = some ⟨oc10, od10, .func (PySem.W.fnOf "_law_pick" "_law_pick" (defArgs s__law_pick) (defBody s__law_pick) (defScope s__law_pick) .none kV10 dc10 pm10 an10 cd10 ct10), sl10⟩)
    (c10 : PySem.W.codeIn K cd10 "_law_pick" = true)
    (k10 : PySem.W.keepIn K (.ref f10) = true)
    (a11 : PySem.W.nsIn K mainGlobals "_law_sizes" = some (some (.ref f11)))
    (l11 : K.lookup f11 = some ⟨oc11, od11, .func (PySem.W.fnOf "_law_sizes" "_law_sizes" (defArgs s__law_sizes) (defBody s__law_sizes) (defScope s__law_sizes) .none kV11 dc11 pm11 an11 cd11 ct11), sl11⟩)
    (c11 : PySem.W.codeIn K cd11 "_law_sizes" = true)
    (k11 : PySem.W.keepIn K (.ref f11) = true)
    (a12 : PySem.W.nsIn K mainGlobals "_law_made" = some (some (.ref f12)))
    (l12 : K.lookup f12 = some ⟨oc12, od12, .func (PySem.W.fnOf "_law_made" "_law_made" (defArgs s__law_made) (defBody s__law_made) (defScope s__law_made) .none kV12 dc12 pm12 an12 cd12 ct12), sl12⟩)
    (c12 : PySem.W.codeIn K cd12 "_law_made" = true)
    (k12 : PySem.W.keepIn K (.ref f12) = true)
    (a13 : PySem.W.nsIn K mainGlobals "_law_parts_right" = some (some (.ref f13)))
    (l13 : K.lookup f13 = some ⟨oc13, od13, .func (PySem.W.fnOf "_law_parts_right" "_law_parts_right" (defArgs s__law_parts_right) (defBody s__law_parts_right) (defScope s__law_parts_right) .none kV13 dc13 pm13 an13 cd13 ct13), sl13⟩)
    (c13 : PySem.W.codeIn K cd13 "_law_parts_right" = true)
    (k13 : PySem.W.keepIn K (.ref f13) = true)
    (a14 : PySem.W.nsIn K mainGlobals "_law_asked_right" = some (some (.ref f14)))
    (l14 : K.lookup f14 = some ⟨oc14, od14, .func (PySem.W.fnOf "_law_asked_right" "_law_asked_right" (defArgs s__law_asked_right) (defBody s__law_asked_right) (defScope s__law_asked_right) .none kV14 dc14 pm14 an14 (.ref ct0) ct14), sl14⟩)
    (c14 : PySem.W.codeIn K (.ref ct0) "_law_asked_right" = true)
    (k14 : PySem.W.keepIn K (.ref f14) = true)
    (a15 : PySem.W.nsIn K mainGlobals "_law_equal_right" = some (some (.ref f15)))
    (l15 : K.lookup f15 = some ⟨oc15, od15, .func (PySem.W.fnOf "_law_equal_right" "_law_equal_right" (defArgs s__law_equal_right) (defBody s__law_equal_right) (defScope s__law_equal_right) .none kV15 dc15 pm15 an15 cd15 ct15), sl15⟩)
    (c15 : PySem.W.codeIn K cd15 "_law_equal_right" = true)
    (k15 : PySem.W.keepIn K (.ref f15) = true)
    (a16 : PySem.W.nsIn K mainGlobals "_law_refused_right" = some (some (.ref f16)))
    (l16 : K.lookup f16 = some ⟨oc16, od16, .func (PySem.W.fnOf "_law_refused_right" "_law_refused_right" (defArgs s__law_refused_right) (defBody s__law_refused_right) (defScope s__law_refused_right) .none kV16 dc16 pm16 an16 (.ref ctt1) ct16), sl16⟩)
    (c16 : PySem.W.codeIn K (.ref ctt1) "_law_refused_right" = true)
    (k16 : PySem.W.keepIn K (.ref f16) = true)
    (a17 : PySem.W.nsIn K mainGlobals "law" = some (some (.ref f17)))
    (l17 : K.lookup f17 = some ⟨oc17, od17, .func (PySem.W.fnOf "law" "law" (defArgs s_law) (defBody s_law) (defScope s_law) .none kV17 dc17 pm17 an17 (.ref ctt2) ct17), sl17⟩)
    (c17 : PySem.W.codeIn K (.ref ctt2) "law" = true)
    (k17 : PySem.W.keepIn K (.ref f17) = true)
    (a_C : PySem.W.nsIn K mainGlobals "Chunks" = some (some (.ref C)))
    (a_C___init__ : PySem.W.findIn K (.ref C) "__init__" = some (some (.ref g_C___init__)))
    (l_C___init__ : K.lookup g_C___init__ = some ⟨oc_C___init__, od_C___init__, .func (PySem.W.fnOf "__init__" "Chunks.__init__" (defArgs s_Chunks___init__) (defBody s_Chunks___init__) (defScope s_Chunks___init__) .none kV_C___init__ dc_C___init__ pm_C___init__ an_C___init__ cd_C___init__ ct_C___init__), sl_C___init__⟩)
    (c_C___init__ : PySem.W.codeIn K cd_C___init__ "Chunks.__init__" = true)
    (k_C___init__ : PySem.W.keepIn K (.ref g_C___init__) = true)
    (i_C___init__ : PySem.W.isFn K (.ref g_C___init__) = true)
    (a_C___eq__ : PySem.W.findIn K (.ref C) "__eq__" = some (some (.ref g_C___eq__)))
    (l_C___eq__ : K.lookup g_C___eq__ = some ⟨oc_C___eq__, od_C___eq__, .func (PySem.W.fnOf "__eq__" "Chunks.__eq__" (defArgs s_Chunks___eq__) (defBody s_Chunks___eq__) (defScope s_Chunks___eq__) .none kV_C___eq__ dc_C___eq__ pm_C___eq__ an_C___eq__ cd_C___eq__ ct_C___eq__), sl_C___eq__⟩)
    (c_C___eq__ : PySem.W.codeIn K cd_C___eq__ "Chunks.__eq__" = true)
    (k_C___eq__ : PySem.W.keepIn K (.ref g_C___eq__) = true)
    (i_C___eq__ : PySem.W.isFn K (.ref g_C___eq__) = true)
    (a_C___len__ : PySem.W.findIn K (.ref C) "__len__" = some (some (.ref g_C___len__)))
    (l_C___len__ : K.lookup g_C___len__ = some ⟨oc_C___len__, od_C___len__, .func (PySem.W.fnOf "__len__" "Chunks.__len__" (defArgs s_Chunks___len__) (defBody s_Chunks___len__) (defScope s_Chunks___len__) .none kV_C___len__ dc_C___len__ pm_C___len__ an_C___len__ cd_C___len__ ct_C___len__), sl_C___len__⟩)
    (c_C___len__ : PySem.W.codeIn K cd_C___len__ "Chunks.__len__" = true)
    (k_C___len__ : PySem.W.keepIn K (.ref g_C___len__) = true)
    (i_C___len__ : PySem.W.isFn K (.ref g_C___len__) = true)
    (a_C___str__ : PySem.W.findIn K (.ref C) "__str__" = some (some (.ref g_C___str__)))
    (l_C___str__ : K.lookup g_C___str__ = some ⟨oc_C___str__, od_C___str__, .func (PySem.W.fnOf "__str__" "Chunks.__str__" (defArgs s_Chunks___str__) (defBody s_Chunks___str__) (defScope s_Chunks___str__) .none kV_C___str__ dc_C___str__ pm_C___str__ an_C___str__ cd_C___str__ ct_C___str__), sl_C___str__⟩)
    (c_C___str__ : PySem.W.codeIn K cd_C___str__ "Chunks.__str__" = true)
    (k_C___str__ : PySem.W.keepIn K (.ref g_C___str__) = true)
    (i_C___str__ : PySem.W.isFn K (.ref g_C___str__) = true)
    (a_C___iter__ : PySem.W.findIn K (.ref C) "__iter__" = some (some (.ref g_C___iter__)))
    (l_C___iter__ : K.lookup g_C___iter__ = some ⟨oc_C___iter__, od_C___iter__, .func (PySem.W.fnOf "__iter__" "Chunks.__iter__" (defArgs s_Chunks___iter__) (defBody s_Chunks___iter__) (defScope s_Chunks___iter__) .none kV_C___iter__ dc_C___iter__ pm_C___iter__ an_C___iter__ cd_C___iter__ ct_C___iter__), sl_C___iter__⟩)
    (c_C___iter__ : PySem.W.codeIn K cd_C___iter__ "Chunks.__iter__" = true)
    (k_C___iter__ : PySem.W.keepIn K (.ref g_C___iter__) = true)
    (i_C___iter__ : PySem.W.isFn K (.ref g_C___iter__) = true)
    (a_C___contains__ : PySem.W.findIn K (.ref C) "__contains__" = some (some (.ref g_C___contains__)))
    (l_C___contains__ : K.lookup g_C___contains__ = some ⟨oc_C___contains__, od_C___contains__, .func (PySem.W.fnOf "__contains__" "Chunks.__contains__" (defArgs s_Chunks___contains__) (defBody s_Chunks___contains__) (defScope s_Chunks___contains__) .none kV_C___contains__ dc_C___contains__ pm_C___contains__ an_C___contains__ cd_C___contains__ ct_C___contains__), sl_C___contains__⟩)
    (c_C___contains__ : PySem.W.codeIn K cd_C___contains__ "Chunks.__contains__" = true)
    (k_C___contains__ : PySem.W.keepIn K (.ref g_C___contains__) = true)
    (i_C___contains__ : PySem.W.isFn K (.ref g_C___contains__) = true)
    (a_C___getitem__ : PySem.W.findIn K (.ref C) "__getitem__" = some (some (.ref g_C___getitem__)))
    (l_C___getitem__ : K.lookup g_C___getitem__ = some ⟨oc_C___getitem__, od_C___getitem__, .func (PySem.W.fnOf "__getitem__" "Chunks.__getitem__" (defArgs s_Chunks___getitem__) (defBody s_Chunks___getitem__) (defScope s_Chunks___getitem__) .none kV_C___getitem__ dc_C___getitem__ pm_C___getitem__ an_C___getitem__ cd_C___getitem__ ct_C___getitem__), sl_C___getitem__⟩)
    (c_C___getitem__ : PySem.W.codeIn K cd_C___getitem__ "Chunks.__getitem__" = true)
    (k_C___getitem__ : PySem.W.keepIn K (.ref g_C___getitem__) = true)
    (i_C___getitem__ : PySem.W.isFn K (.ref g_C___getitem__) = true)
    (mk_C : PySem.W.makesIn K C = true)
    (pg_C : PySem.W.plainGet K C Str.empty = true)
    (hd_C : PySem.W.hasDictIn K C = true)
    (po_C : PySem.W.plainOver K C = true)
    (sa_C : PySem.W.findIn K (.ref C) "__setattr__" = some (some (.builtin "object.__setattr__")))
    (kc_C : PySem.W.keepIn K (.ref C) = true)
    (ya_C : PySem.W.findIn K (.ref C) "__class__" = some (some (.builtin "object.__class__")))
    (yb : PySem.W.specialIn K (.builtin "object.__class__") "__get__" = some (some (.builtin "getset_descriptor.__get__")))
    (yc : PySem.W.takesIn K (.builtin "object.__class__") = some true)
    (yd_C : PySem.W.mroIn K C (.type "object") = some true)
    (yk_C : PySem.W.kitOne K (.ref C) (.ref C) = some true)
    (n_C_sizes : PySem.W.findIn K (.ref C) "sizes" = some none)
    (n_C_ends : PySem.W.findIn K (.ref C) "ends" = some none)
    (n_C_total : PySem.W.findIn K (.ref C) "total" = some none)
    (n_C_rests : PySem.W.findIn K (.ref C) "rests" = some none)
    (cf1_C : (numTys.all fun T => PySem.W.notFirst K C (.type T)) = true)
    (cf2_C : PySem.W.notFirst K C (.ref C) = true)
    (cf3_C : (numTys.all fun T => decide (PySem.W.subIn K (.ref C) (.type T) = some false)) = true)
    (cf5_C : PySem.W.findIn K (.ref C) "__ne__" = some (some (.builtin "object.__ne__")))
    (sr_C : PySem.W.readsIn K C (.type "type") = true)
    (sg_C : PySem.W.specialIn K (.ref C) "__getattribute__" = some (some (.builtin "type.__getattribute__")))
    (sf_C_of : PySem.W.findCls K (.ref C) (.type "type") "of" = some (.get (.builtin "staticmethod.__get__") (.ref p_C_of) .none (.ref C)))
    (sc_C_of : PySem.W.recIn K p_C_of "staticmethod" = some (.ref g_C_of :: rest_C_of))
    (l_C_of : K.lookup g_C_of = some ⟨oc_C_of, od_C_of, .func (PySem.W.fnOf "of" "Chunks.of" (defArgs s_Chunks_of) (defBody s_Chunks_of) (defScope s_Chunks_of) .none kV_C_of dc_C_of pm_C_of an_C_of cd_C_of ct_C_of), sl_C_of⟩)
    (c_C_of : PySem.W.codeIn K cd_C_of "Chunks.of" = true)
    (k_C_of : PySem.W.keepIn K (.ref g_C_of) = true)
    (a_CL : PySem.W.nsIn K mainGlobals "LateError" = some (some (.ref CL)))
    (aZB : PySem.W.nsIn K mainGlobals "BadSize" = some (some (.ref CB)))
    (iZB : PySem.W.findIn K (.ref CB) "__init__" = some (some (.ref fZB)))
    (tZB : PySem.W.typeIn K (.ref fZB) = some (.type "function"))
    (lZB : K.lookup fZB = some ⟨ocZB, odZB, .func (PySem.W.fnX "__init__" "BadSize.__init__" (defArgs s_BadSize___init__) (defBody s_BadSize___init__) (defScope s_BadSize___init__) [("__class__", ccZB)] .none kVZB dcZB pmZB anZB (.ref cdZB) ctZB), slZB⟩)
    (cZB : PySem.W.codeIn K (.ref cdZB) "BadSize.__init__" = true)
    (eZB : ∃ nm q N bs bm sn sub ab col dd k0 k1 k2 k3 k5, K.lookup CB = some (excClassObj nm q CB N bs bm true sn sub ab col dd k0 k1 k2 k3 k5 "ValueError.__new__") ∧ PySem.HandSPX.refsVE bm = true)
    (sZB : PySem.W.findIn K (.ref CB) "__setattr__" = some (some (.builtin "object.__setattr__")))
    (xZB : PySem.W.subIn K (.ref CB) (.type "BaseException") = some true)
    (yZB : PySem.W.typeIn K (.ref CB) = some (.type "type"))
    (kZB : PySem.W.keepIn K (.ref CB) = true)
    (qZB : K.lookup ccZB = some ⟨clZB, cldZB, .cell (some (.ref CB)), cslZB⟩)
    (uZB : K.lookup cdZB = some ⟨cclZB, cddZB, .fields vsZB, ccsZB⟩)
    (vZB : vsZB[2]? = some (.str fileZB tfZB))
    (wZB : ((l.prog.main.file : Str) == fileZB) = true)
    (mZB : PySem.W.mroIn K CB (.ref CB) = some true)
    (pZB : PySem.W.ks_superIn K CB CB "__init__" = some (some (.builtin "ValueError.__init__")))
    (bZB : PySem.W.subIn K (.ref CB) (.type "ValueError") = some true)
    (zS : PySem.W.nsIn K mainGlobals "super" = some none)
    (tS : (l.prog.main.scope.names.lookup ("super" : Str)).isSome = false)
    (oB : PySem.W.nsIn K cStatics "thirdparty.any" = some none)
    (nZB_value : PySem.W.findIn K (.ref CB) "value" = some none)
    (gZB : PySem.W.findIn K (.ref CB) "__getattribute__" = some (some (.builtin "BaseException.__getattribute__")))
    (hZB : PySem.W.findIn K (.ref CB) "__getattr__" = some none)
    (dZB : PySem.W.hasDictIn K CB = true)
    (jZB : PySem.W.findIn K (.ref CB) "__class__" = some (some (.builtin "object.__class__")))
    (rZB : PySem.W.mroIn K CB (.type "object") = some true)
    (k1ZB : PySem.W.kitOne K (.ref CB) (.ref CB) = some true)
    (emZB : PySem.W.exmOne K (.ref CB) (.ref CL) = some true)
    (kVZB : PySem.W.kitOne K (.ref CB) (.type "ValueError") = some true)
    (aZT : PySem.W.nsIn K mainGlobals "BadTotal" = some (some (.ref CT)))
    (iZT : PySem.W.findIn K (.ref CT) "__init__" = some (some (.ref fZT)))
    (tZT : PySem.W.typeIn K (.ref fZT) = some (.type "function"))
    (lZT : K.lookup fZT = some ⟨ocZT, odZT, .func (PySem.W.fnX "__init__" "BadTotal.__init__" (defArgs s_BadTotal___init__) (defBody s_BadTotal___init__) (defScope s_BadTotal___init__) [("__class__", ccZT)] .none kVZT dcZT pmZT anZT (.ref cdZT) ctZT), slZT⟩)
    (cZT : PySem.W.codeIn K (.ref cdZT) "BadTotal.__init__" = true)
    (eZT : ∃ nm q N bs bm sn sub ab col dd k0 k1 k2 k3 k5, K.lookup CT = some (excClassObj nm q CT N bs bm true sn sub ab col dd k0 k1 k2 k3 k5 "ValueError.__new__") ∧ PySem.HandSPX.refsVE bm = true)
    (sZT : PySem.W.findIn K (.ref CT) "__setattr__" = some (some (.builtin "object.__setattr__")))
    (xZT : PySem.W.subIn K (.ref CT) (.type "BaseException") = some true)
    (yZT : PySem.W.typeIn K (.ref CT) = some (.type "type"))
    (kZT : PySem.W.keepIn K (.ref CT) = true)
    (qZT : K.lookup ccZT = some ⟨clZT, cldZT, .cell (some (.ref CT)), cslZT⟩)
    (uZT : K.lookup cdZT = some ⟨cclZT, cddZT, .fields vsZT, ccsZT⟩)
    (vZT : vsZT[2]? = some (.str fileZT tfZT))
    (wZT : ((l.prog.main.file : Str) == fileZT) = true)
    (mZT : PySem.W.mroIn K CT (.ref CT) = some true)
    (pZT : PySem.W.ks_superIn K CT CT "__init__" = some (some (.builtin "ValueError.__init__")))
    (bZT : PySem.W.subIn K (.ref CT) (.type "ValueError") = some true)
    (nZT_value : PySem.W.findIn K (.ref CT) "value" = some none)
    (gZT : PySem.W.findIn K (.ref CT) "__getattribute__" = some (some (.builtin "BaseException.__getattribute__")))
    (hZT : PySem.W.findIn K (.ref CT) "__getattr__" = some none)
    (dZT : PySem.W.hasDictIn K CT = true)
    (jZT : PySem.W.findIn K (.ref CT) "__class__" = some (some (.builtin "object.__class__")))
    (rZT : PySem.W.mroIn K CT (.type "object") = some true)
    (k1ZT : PySem.W.kitOne K (.ref CT) (.ref CT) = some true)
    (emZT : PySem.W.exmOne K (.ref CT) (.ref CL) = some true)
    (kVZT : PySem.W.kitOne K (.ref CT) (.type "ValueError") = some true)
    (aZC : PySem.W.nsIn K mainGlobals "BadChunks" = some (some (.ref CC)))
    (iZC : PySem.W.findIn K (.ref CC) "__init__" = some (some (.ref fZC)))
    (tZC : PySem.W.typeIn K (.ref fZC) = some (.type "function"))
    (lZC : K.lookup fZC = some ⟨ocZC, odZC, .func (PySem.W.fnX "__init__" "BadChunks.__init__" (defArgs s_BadChunks___init__) (defBody s_BadChunks___init__) (defScope s_BadChunks___init__) [("__class__", ccZC)] .none kVZC dcZC pmZC anZC (.ref cdZC) ctZC), slZC⟩)
    (cZC : PySem.W.codeIn K (.ref cdZC) "BadChunks.__init__" = true)
    (eZC : ∃ nm q N bs bm sn sub ab col dd k0 k1 k2 k3 k5, K.lookup CC = some (excClassObj nm q CC N bs bm true sn sub ab col dd k0 k1 k2 k3 k5 "ValueError.__new__") ∧ PySem.HandSPX.refsVE bm = true)
    (sZC : PySem.W.findIn K (.ref CC) "__setattr__" = some (some (.builtin "object.__setattr__")))
    (xZC : PySem.W.subIn K (.ref CC) (.type "BaseException") = some true)
    (yZC : PySem.W.typeIn K (.ref CC) = some (.type "type"))
    (kZC : PySem.W.keepIn K (.ref CC) = true)
    (qZC : K.lookup ccZC = some ⟨clZC, cldZC, .cell (some (.ref CC)), cslZC⟩)
    (uZC : K.lookup cdZC = some ⟨cclZC, cddZC, .fields vsZC, ccsZC⟩)
    (vZC : vsZC[2]? = some (.str fileZC tfZC))
    (wZC : ((l.prog.main.file : Str) == fileZC) = true)
    (mZC : PySem.W.mroIn K CC (.ref CC) = some true)
    (pZC : PySem.W.ks_superIn K CC CC "__init__" = some (some (.builtin "ValueError.__init__")))
    (bZC : PySem.W.subIn K (.ref CC) (.type "ValueError") = some true)
    (nZC_part : PySem.W.findIn K (.ref CC) "part" = some none)
    (gZC : PySem.W.findIn K (.ref CC) "__getattribute__" = some (some (.builtin "BaseException.__getattribute__")))
    (hZC : PySem.W.findIn K (.ref CC) "__getattr__" = some none)
    (dZC : PySem.W.hasDictIn K CC = true)
    (jZC : PySem.W.findIn K (.ref CC) "__class__" = some (some (.builtin "object.__class__")))
    (rZC : PySem.W.mroIn K CC (.type "object") = some true)
    (k1ZC : PySem.W.kitOne K (.ref CC) (.ref CC) = some true)
    (emZC : PySem.W.exmOne K (.ref CC) (.ref CL) = some true)
    (kVZC : PySem.W.kitOne K (.ref CC) (.type "ValueError") = some true)
    (aZM : PySem.W.nsIn K mainGlobals "TooMany" = some (some (.ref CM)))
    (iZM : PySem.W.findIn K (.ref CM) "__init__" = some (some (.ref fZM)))
    (tZM : PySem.W.typeIn K (.ref fZM) = some (.type "function"))
    (lZM : K.lookup fZM = some ⟨ocZM, odZM, .func (PySem.W.fnX "__init__" "TooMany.__init__" (defArgs s_TooMany___init__) (defBody s_TooMany___init__) (defScope s_TooMany___init__) [("__class__", ccZM)] .none kVZM dcZM pmZM anZM (.ref cdZM) ctZM), slZM⟩)
    (cZM : PySem.W.codeIn K (.ref cdZM) "TooMany.__init__" = true)
    (eZM : ∃ nm q N bs bm sn sub ab col dd k0 k1 k2 k3 k5, K.lookup CM = some (excClassObj nm q CM N bs bm true sn sub ab col dd k0 k1 k2 k3 k5 "ValueError.__new__") ∧ PySem.HandSPX.refsVE bm = true)
    (sZM : PySem.W.findIn K (.ref CM) "__setattr__" = some (some (.builtin "object.__setattr__")))
    (xZM : PySem.W.subIn K (.ref CM) (.type "BaseException") = some true)
    (yZM : PySem.W.typeIn K (.ref CM) = some (.type "type"))
    (kZM : PySem.W.keepIn K (.ref CM) = true)
    (qZM : K.lookup ccZM = some ⟨clZM, cldZM, .cell (some (.ref CM)), cslZM⟩)
    (uZM : K.lookup cdZM = some ⟨cclZM, cddZM, .fields vsZM, ccsZM⟩)
    (vZM : vsZM[2]? = some (.str fileZM tfZM))
    (wZM : ((l.prog.main.file : Str) == fileZM) = true)
    (mZM : PySem.W.mroIn K CM (.ref CM) = some true)
    (pZM : PySem.W.ks_superIn K CM CM "__init__" = some (some (.builtin "ValueError.__init__")))
    (bZM : PySem.W.subIn K (.ref CM) (.type "ValueError") = some true)
    (nZM_what : PySem.W.findIn K (.ref CM) "what" = some none)
    (nZM_most : PySem.W.findIn K (.ref CM) "most" = some none)
    (gZM : PySem.W.findIn K (.ref CM) "__getattribute__" = some (some (.builtin "BaseException.__getattribute__")))
    (hZM : PySem.W.findIn K (.ref CM) "__getattr__" = some none)
    (dZM : PySem.W.hasDictIn K CM = true)
    (jZM : PySem.W.findIn K (.ref CM) "__class__" = some (some (.builtin "object.__class__")))
    (rZM : PySem.W.mroIn K CM (.type "object") = some true)
    (k1ZM : PySem.W.kitOne K (.ref CM) (.ref CM) = some true)
    (emZM : PySem.W.exmOne K (.ref CM) (.ref CL) = some true)
    (kVZM : PySem.W.kitOne K (.ref CM) (.type "ValueError") = some true)
    (aZN : PySem.W.nsIn K mainGlobals "NoChunk" = some (some (.ref CN)))
    (iZN : PySem.W.findIn K (.ref CN) "__init__" = some (some (.ref fZN)))
    (tZN : PySem.W.typeIn K (.ref fZN) = some (.type "function"))
    (lZN : K.lookup fZN = some ⟨ocZN, odZN, .func (PySem.W.fnX "__init__" "NoChunk.__init__" (defArgs s_NoChunk___init__) (defBody s_NoChunk___init__) (defScope s_NoChunk___init__) [("__class__", ccZN)] .none kVZN dcZN pmZN anZN (.ref cdZN) ctZN), slZN⟩)
    (cZN : PySem.W.codeIn K (.ref cdZN) "NoChunk.__init__" = true)
    (eZN : ∃ nm q N bs bm sn sub ab col dd k0 k1 k2 k3 k5, K.lookup CN = some (excClassObj nm q CN N bs bm true sn sub ab col dd k0 k1 k2 k3 k5 "ValueError.__new__") ∧ PySem.HandSPX.refsVE bm = true)
    (sZN : PySem.W.findIn K (.ref CN) "__setattr__" = some (some (.builtin "object.__setattr__")))
    (xZN : PySem.W.subIn K (.ref CN) (.type "BaseException") = some true)
    (yZN : PySem.W.typeIn K (.ref CN) = some (.type "type"))
    (kZN : PySem.W.keepIn K (.ref CN) = true)
    (qZN : K.lookup ccZN = some ⟨clZN, cldZN, .cell (some (.ref CN)), cslZN⟩)
    (uZN : K.lookup cdZN = some ⟨cclZN, cddZN, .fields vsZN, ccsZN⟩)
    (vZN : vsZN[2]? = some (.str fileZN tfZN))
    (wZN : ((l.prog.main.file : Str) == fileZN) = true)
    (mZN : PySem.W.mroIn K CN (.ref CN) = some true)
    (pZN : PySem.W.ks_superIn K CN CN "__init__" = some (some (.builtin "ValueError.__init__")))
    (bZN : PySem.W.subIn K (.ref CN) (.type "ValueError") = some true)
    (nZN_at : PySem.W.findIn K (.ref CN) "at" = some none)
    (gZN : PySem.W.findIn K (.ref CN) "__getattribute__" = some (some (.builtin "BaseException.__getattribute__")))
    (hZN : PySem.W.findIn K (.ref CN) "__getattr__" = some none)
    (dZN : PySem.W.hasDictIn K CN = true)
    (jZN : PySem.W.findIn K (.ref CN) "__class__" = some (some (.builtin "object.__class__")))
    (rZN : PySem.W.mroIn K CN (.type "object") = some true)
    (k1ZN : PySem.W.kitOne K (.ref CN) (.ref CN) = some true)
    (emZN : PySem.W.exmOne K (.ref CN) (.ref CL) = some true)
    (kVZN : PySem.W.kitOne K (.ref CN) (.type "ValueError") = some true)
    (aZW : PySem.W.nsIn K mainGlobals "BadText" = some (some (.ref CW)))
    (iZW : PySem.W.findIn K (.ref CW) "__init__" = some (some (.ref fZW)))
    (tZW : PySem.W.typeIn K (.ref fZW) = some (.type "function"))
    (lZW : K.lookup fZW = some ⟨ocZW, odZW, .func (PySem.W.fnX "__init__" "BadText.__init__" (defArgs s_BadText___init__) (defBody s_BadText___init__) (defScope s_BadText___init__) [("__class__", ccZW)] .none kVZW dcZW pmZW anZW (.ref cdZW) ctZW), slZW⟩)
    (cZW : PySem.W.codeIn K (.ref cdZW) "BadText.__init__" = true)
    (eZW : ∃ nm q N bs bm sn sub ab col dd k0 k1 k2 k3 k5, K.lookup CW = some (excClassObj nm q CW N bs bm true sn sub ab col dd k0 k1 k2 k3 k5 "ValueError.__new__") ∧ PySem.HandSPX.refsVE bm = true)
    (sZW : PySem.W.findIn K (.ref CW) "__setattr__" = some (some (.builtin "object.__setattr__")))
    (xZW : PySem.W.subIn K (.ref CW) (.type "BaseException") = some true)
    (yZW : PySem.W.typeIn K (.ref CW) = some (.type "type"))
    (kZW : PySem.W.keepIn K (.ref CW) = true)
    (qZW : K.lookup ccZW = some ⟨clZW, cldZW, .cell (some (.ref CW)), cslZW⟩)
    (uZW : K.lookup cdZW = some ⟨cclZW, cddZW, .fields vsZW, ccsZW⟩)
    (vZW : vsZW[2]? = some (.str fileZW tfZW))
    (wZW : ((l.prog.main.file : Str) == fileZW) = true)
    (mZW : PySem.W.mroIn K CW (.ref CW) = some true)
    (pZW : PySem.W.ks_superIn K CW CW "__init__" = some (some (.builtin "ValueError.__init__")))
    (bZW : PySem.W.subIn K (.ref CW) (.type "ValueError") = some true)
    (nZW_line : PySem.W.findIn K (.ref CW) "line" = some none)
    (nZW_word : PySem.W.findIn K (.ref CW) "word" = some none)
    (gZW : PySem.W.findIn K (.ref CW) "__getattribute__" = some (some (.builtin "BaseException.__getattribute__")))
    (hZW : PySem.W.findIn K (.ref CW) "__getattr__" = some none)
    (dZW : PySem.W.hasDictIn K CW = true)
    (jZW : PySem.W.findIn K (.ref CW) "__class__" = some (some (.builtin "object.__class__")))
    (rZW : PySem.W.mroIn K CW (.type "object") = some true)
    (k1ZW : PySem.W.kitOne K (.ref CW) (.ref CW) = some true)
    (emZW : PySem.W.exmOne K (.ref CW) (.ref CL) = some true)
    (kVZW : PySem.W.kitOne K (.ref CW) (.type "ValueError") = some true)
    (kMW : PySem.W.kitOne K (.ref CM) (.ref CW) = some false)
    (kWM : PySem.W.kitOne K (.ref CW) (.ref CM) = some false)
    (kCI : PySem.W.kitOne K (.ref C) (.type "int") = some false)
    (kCS : PySem.W.kitOne K (.ref C) (.type "str") = some false)
    (kCLT : PySem.W.kitAny K (.ref C) [.type "list", .type "tuple"] = some false)
    (kTC : (["int", "NoneType", "bool", "str", "tuple", "list", "dict"].all fun T => decide (PySem.W.kitOne K (.type T) (.ref C) = some false)) = true)
    (gMS : PySem.W.nsIn K mainGlobals "MOST_SIZE" = some (some (.int 1000000000000000000000000000000 tMS)))
    (gMC : PySem.W.nsIn K mainGlobals "MOST_CHUNKS" = some (some (.int 5000 tMC)))
    (gMI : PySem.W.nsIn K mainGlobals "MOST_ITEMS" = some (some (.int 1000000000000000000000000000000 tMI)))
    (gMF : PySem.W.nsIn K mainGlobals "MOST_FIGURES" = some (some (.int 4000 tMF)))
    (z_iter : PySem.W.nsIn K mainGlobals "iter" = some none)
    (nb_C : PySem.W.findIn K (.ref C) "__bool__" = some none)
    (ns_C : PySem.W.noSeq K C = true)
    (fi_C : PySem.W.fnIn K g_C___getitem__ = true)
    (cv_C : PySem.W.findCls K (.ref C) (.type "type") "MOST" = some (.val (.int 5000 tMO)))
    (digs : PySem.W.nsIn K cStatics "sys.int_max_str_digits" = some none)
    (k5CCCB : PySem.W.kitOne K (.ref CC) (.ref CB) = some false)
    (k5CCCT : PySem.W.kitOne K (.ref CC) (.ref CT) = some false)
    (k5CCCN : PySem.W.kitOne K (.ref CC) (.ref CN) = some false)
    (k5CCCM : PySem.W.kitOne K (.ref CC) (.ref CM) = some false)
    (k5CBCC : PySem.W.kitOne K (.ref CB) (.ref CC) = some false)
    (k5CBCT : PySem.W.kitOne K (.ref CB) (.ref CT) = some false)
    (k5CBCN : PySem.W.kitOne K (.ref CB) (.ref CN) = some false)
    (k5CBCM : PySem.W.kitOne K (.ref CB) (.ref CM) = some false)
    (k5CTCB : PySem.W.kitOne K (.ref CT) (.ref CB) = some false)
    (k5CTCC : PySem.W.kitOne K (.ref CT) (.ref CC) = some false)
    (k5CTCN : PySem.W.kitOne K (.ref CT) (.ref CN) = some false)
    (k5CTCM : PySem.W.kitOne K (.ref CT) (.ref CM) = some false)
    (k5CNCB : PySem.W.kitOne K (.ref CN) (.ref CB) = some false)
    (k5CNCC : PySem.W.kitOne K (.ref CN) (.ref CC) = some false)
    (k5CNCT : PySem.W.kitOne K (.ref CN) (.ref CT) = some false)
    (k5CNCM : PySem.W.kitOne K (.ref CN) (.ref CM) = some false)
    (k5CMCB : PySem.W.kitOne K (.ref CM) (.ref CB) = some false)
    (k5CMCC : PySem.W.kitOne K (.ref CM) (.ref CC) = some false)
    (k5CMCT : PySem.W.kitOne K (.ref CM) (.ref CT) = some false)
    (k5CMCN : PySem.W.kitOne K (.ref CM) (.ref CN) = some false)
    (z_isinstance : PySem.W.nsIn K mainGlobals "isinstance" = some none)
    (z_int : PySem.W.nsIn K mainGlobals "int" = some none)
    (z_bool : PySem.W.nsIn K mainGlobals "bool" = some none)
    (z_len : PySem.W.nsIn K mainGlobals "len" = some none)
    (z_abs : PySem.W.nsIn K mainGlobals "abs" = some none)
    (z_list : PySem.W.nsIn K mainGlobals "list" = some none)
    (z_tuple : PySem.W.nsIn K mainGlobals "tuple" = some none)
    (z_range : PySem.W.nsIn K mainGlobals "range" = some none)
    (z_repr : PySem.W.nsIn K mainGlobals "repr" = some none)
    (z_str : PySem.W.nsIn K mainGlobals "str" = some none)
    (z_zip : PySem.W.nsIn K mainGlobals "zip" = some none)
    (z_min : PySem.W.nsIn K mainGlobals "min" = some none)
    (z_max : PySem.W.nsIn K mainGlobals "max" = some none)
    (z_all : PySem.W.nsIn K mainGlobals "all" = some none)
    (z_sorted : PySem.W.nsIn K mainGlobals "sorted" = some none)
    (z_enumerate : PySem.W.nsIn K mainGlobals "enumerate" = some none)
    (z_ValueError : PySem.W.nsIn K mainGlobals "ValueError" = some none)
    (hCPt : PySem.W.codeHdIn K ct0 Pt = true)
    (nPPt : K.lookup Pt = none)
    (hCPt1 : PySem.W.codeHdIn K ctt1 Pt1 = true)
    (nPPt1 : K.lookup Pt1 = none)
    (hCPt2 : PySem.W.codeHdIn K ctt2 Pt2 = true)
    (nPPt2 : K.lookup Pt2 = none)
    (tPPt : h.get? Pt = some { cls := .none, data := .fields #[] })
    (tPPt1 : h.get? Pt1 = some { cls := .none, data := .fields #[] })
    (tPPt2 : h.get? Pt2 = some { cls := .none, data := .fields #[] })
    (hPd0 : [Pt, Pt1, Pt2].Nodup)
    : LawG l w K CX0 16 63 "_law_script" mg fa h := by
  have e := hfa.symm.trans (PySem.W.mg_of X G a17)
  cases e
  have hPd : (([(Pt, lamQ1), (Pt1, lamQ2), (Pt2, lamQ3)] : List (Addr × Str)).map (·.1)).Nodup := hPd0
  have T : Txt K mg C CB CC CM CL CT CN CW := ⟨PySem.W.mg_none_of X G z_isinstance, PySem.W.mg_none_of X G z_int, PySem.W.mg_none_of X G z_bool, PySem.W.mg_none_of X G z_len, PySem.W.mg_none_of X G z_abs, PySem.W.mg_none_of X G z_list, PySem.W.mg_none_of X G z_tuple, PySem.W.mg_none_of X G z_range, PySem.W.mg_none_of X G z_repr, PySem.W.mg_none_of X G z_str, PySem.W.mg_none_of X G z_zip, PySem.W.mg_none_of X G z_min, PySem.W.mg_none_of X G z_max, PySem.W.mg_none_of X G z_all, PySem.W.mg_none_of X G z_sorted, PySem.W.mg_none_of X G z_enumerate, PySem.W.mg_none_of X G z_ValueError, PySem.W.mg_of X G a_CL, ⟨⟨_, PySem.W.mg_of X G a_C, rfl⟩, ⟨pg_C, hd_C, po_C, sa_C⟩, yk_C, ya_C, yb, yc, yd_C⟩, ⟨⟨_, PySem.W.mg_of X G aZB, rfl⟩, ⟨gZB, hZB, xZB, dZB, jZB, yb, yc, rZB⟩, ⟨gZB, hZB, xZB, dZB⟩, (List.forall_mem_cons.mpr ⟨nZB_value, (fun _ h => nomatch h)⟩), k1ZB, emZB, kVZB⟩, ⟨⟨_, PySem.W.mg_of X G aZC, rfl⟩, ⟨gZC, hZC, xZC, dZC, jZC, yb, yc, rZC⟩, ⟨gZC, hZC, xZC, dZC⟩, (List.forall_mem_cons.mpr ⟨nZC_part, (fun _ h => nomatch h)⟩), k1ZC, emZC, kVZC⟩, ⟨⟨_, PySem.W.mg_of X G aZM, rfl⟩, ⟨gZM, hZM, xZM, dZM, jZM, yb, yc, rZM⟩, ⟨gZM, hZM, xZM, dZM⟩, (List.forall_mem_cons.mpr ⟨nZM_what, (List.forall_mem_cons.mpr ⟨nZM_most, (fun _ h => nomatch h)⟩)⟩), k1ZM, emZM, kVZM⟩, ⟨⟨_, PySem.W.mg_of X G aZN, rfl⟩, ⟨gZN, hZN, xZN, dZN, jZN, yb, yc, rZN⟩, ⟨gZN, hZN, xZN, dZN⟩, (List.forall_mem_cons.mpr ⟨nZN_at, (fun _ h => nomatch h)⟩), k1ZN, emZN, kVZN⟩, ⟨⟨_, PySem.W.mg_of X G aZT, rfl⟩, ⟨gZT, hZT, xZT, dZT, jZT, yb, yc, rZT⟩, ⟨gZT, hZT, xZT, dZT⟩, (List.forall_mem_cons.mpr ⟨nZT_value, (fun _ h => nomatch h)⟩), k1ZT, emZT, kVZT⟩, ⟨⟨_, PySem.W.mg_of X G aZW, rfl⟩, ⟨gZW, hZW, xZW, dZW, jZW, yb, yc, rZW⟩, ⟨gZW, hZW, xZW, dZW⟩, (List.forall_mem_cons.mpr ⟨nZW_line, (List.forall_mem_cons.mpr ⟨nZW_word, (fun _ h => nomatch h)⟩)⟩), k1ZW, emZW, kVZW⟩, kMW, kWM, kCI, kCS, kCLT, kTC, ⟨cf1_C, cf2_C, cf3_C, yd_C, cf5_C⟩, n_C_sizes, n_C_ends, n_C_total, n_C_rests, ⟨_, PySem.W.mg_of X G gMS, ⟨_, rfl⟩⟩, ⟨_, PySem.W.mg_of X G gMC, ⟨_, rfl⟩⟩, ⟨_, PySem.W.mg_of X G gMI, ⟨_, rfl⟩⟩, ⟨_, PySem.W.mg_of X G gMF, ⟨_, rfl⟩⟩, digs⟩
  have F1 := fun_mk (st := s_is_integer) l1 c1 k1
  have F2 := fun_mk (st := s_is_within) l2 c2 k2
  have F3 := fun_mk (st := s_is_size) l3 c3 k3
  have F4 := fun_mk (st := s_need_size) l4 c4 k4
  have F5 := fun_mk (st := s_need_few) l5 c5 k5
  have F6 := fun_mk (st := s_ends_of) l6 c6 k6
  have F7 := fun_mk (st := s__law_heard) l7 c7 k7
  have F8 := fun_mk (st := s__law_pen) l8 c8 k8
  have F9 := fun_mk (st := s__law_draw) l9 c9 k9
  have F10 := fun_mk (st := s__law_pick) l10 c10 k10
  have F11 := fun_mk (st := s__law_sizes) l11 c11 k11
  have F12 := fun_mk (st := s__law_made) l12 c12 k12
  have F13 := fun_mk (st := s__law_parts_right) l13 c13 k13
  have F14 : FunC K "_law_asked_right" "_law_asked_right" s__law_asked_right ct0 f14 _ := ⟨⟨_, _, _, _, _, _, _, _, rfl, l14, c14⟩⟩
  have F15 := fun_mk (st := s__law_equal_right) l15 c15 k15
  have F16 : FunC K "_law_refused_right" "_law_refused_right" s__law_refused_right ctt1 f16 _ := ⟨⟨_, _, _, _, _, _, _, _, rfl, l16, c16⟩⟩
  have F17 : FunC K "law" "law" s_law ctt2 _ _ := ⟨⟨_, _, _, _, _, _, _, _, rfl, l17, c17⟩⟩
  have F_C___init__ := fun_mk l_C___init__ c_C___init__ k_C___init__
  have F_C___eq__ := fun_mk l_C___eq__ c_C___eq__ k_C___eq__
  have F_C___len__ := fun_mk l_C___len__ c_C___len__ k_C___len__
  have F_C___str__ := fun_mk l_C___str__ c_C___str__ k_C___str__
  have F_C___iter__ := fun_mk l_C___iter__ c_C___iter__ k_C___iter__
  have F_C___contains__ := fun_mk l_C___contains__ c_C___contains__ k_C___contains__
  have F_C___getitem__ := fun_mk l_C___getitem__ c_C___getitem__ k_C___getitem__
  have F_C_of := fun_mk l_C_of c_C_of k_C_of
  refine ⟨PySem.W.fnOf "law" "law" (defArgs s_law) (defBody s_law) (defScope s_law) .none kV17 dc17 pm17 an17 (.ref ctt2) ct17, [(ct0, Pt), (ctt1, Pt1), (ctt2, Pt2)], spLaw K [(Pt, lamQ1), (Pt1, lamQ2), (Pt2, lamQ3)], ?_, ?_, ?_, (fun s u => BindsTo.of_eq rfl), ?_, fun base kb nb tb => ?_⟩
  · intro p hp
    simp only [List.mem_cons, List.not_mem_nil, or_false] at hp
    rcases hp with rfl | rfl | rfl
    · exact tPPt
    · exact tPPt1
    · exact tPPt2
  · intro p hp
    simp only [List.mem_cons, List.not_mem_nil, or_false] at hp
    rcases hp with rfl | rfl | rfl
    · exact nPPt
    · exact nPPt1
    · exact nPPt2
  · intro p hp
    simp only [List.mem_cons, List.not_mem_nil, or_false] at hp
    rcases hp with rfl | rfl | rfl
    · exact PySem.W.codeHd_of_K X hCPt
    · exact PySem.W.codeHd_of_K X hCPt1
    · exact PySem.W.codeHd_of_K X hCPt2
  · intro H a ns hl hH hS
    refine ⟨a, ns, rfl, hS, hl, (fun p hp => ?_), fun _ => rfl⟩
    simp only [List.mem_cons, List.not_mem_nil, or_false] at hp
    rcases hp with rfl | rfl | rfl
    · exact tab0 (hH _ List.mem_cons_self)
    · exact tab0 (hH _ (List.mem_cons_of_mem _ List.mem_cons_self))
    · exact tab0 (hH _ (List.mem_cons_of_mem _ (List.mem_cons_of_mem _ List.mem_cons_self)))
  have SZB : SupF l.prog K mg CB fZB cdZB ccZB (defScope s_BadSize___init__) := ⟨⟨eZB, sZB, xZB, yZB, kZB⟩, ⟨_, _, _, qZB⟩, ⟨_, _, _, _, _, _, uZB, vZB, wZB⟩, mZB, PySem.W.mg_none_of X G zS, tS, oB, pZB, bZB, by decide +kernel, by decide +kernel⟩
  have e_BadSize : Er1 l.prog w K mg base "BadSize" CB "value" := ⟨⟨eZB, sZB, xZB, yZB, kZB⟩, PySem.W.mg_of X G aZB, fZB, _, "value", iZB, tZB, ok_BadSize lZB cZB SZB nZB_value, .all (fun us hl => match us, hl with | [_, _], _ => rfl)⟩
  have SZC : SupF l.prog K mg CC fZC cdZC ccZC (defScope s_BadChunks___init__) := ⟨⟨eZC, sZC, xZC, yZC, kZC⟩, ⟨_, _, _, qZC⟩, ⟨_, _, _, _, _, _, uZC, vZC, wZC⟩, mZC, PySem.W.mg_none_of X G zS, tS, oB, pZC, bZC, by decide +kernel, by decide +kernel⟩
  have e_BadChunks : Er1 l.prog w K mg base "BadChunks" CC "part" := ⟨⟨eZC, sZC, xZC, yZC, kZC⟩, PySem.W.mg_of X G aZC, fZC, _, "part", iZC, tZC, ok_BadChunks lZC cZC SZC nZC_part, .all (fun us hl => match us, hl with | [_, _], _ => rfl)⟩
  have SZM : SupF l.prog K mg CM fZM cdZM ccZM (defScope s_TooMany___init__) := ⟨⟨eZM, sZM, xZM, yZM, kZM⟩, ⟨_, _, _, qZM⟩, ⟨_, _, _, _, _, _, uZM, vZM, wZM⟩, mZM, PySem.W.mg_none_of X G zS, tS, oB, pZM, bZM, by decide +kernel, by decide +kernel⟩
  have e_TooMany : Er2 l.prog w K mg base "TooMany" CM "what" "most" := ⟨⟨eZM, sZM, xZM, yZM, kZM⟩, PySem.W.mg_of X G aZM, fZM, _, "what", "most", iZM, tZM, ok_TooMany lZM cZM SZM nZM_what nZM_most, .all (fun us hl => match us, hl with | [_, _, _], _ => rfl)⟩
  have SZN : SupF l.prog K mg CN fZN cdZN ccZN (defScope s_NoChunk___init__) := ⟨⟨eZN, sZN, xZN, yZN, kZN⟩, ⟨_, _, _, qZN⟩, ⟨_, _, _, _, _, _, uZN, vZN, wZN⟩, mZN, PySem.W.mg_none_of X G zS, tS, oB, pZN, bZN, by decide +kernel, by decide +kernel⟩
  have e_NoChunk : Er1 l.prog w K mg base "NoChunk" CN "at" := ⟨⟨eZN, sZN, xZN, yZN, kZN⟩, PySem.W.mg_of X G aZN, fZN, _, "at", iZN, tZN, ok_NoChunk lZN cZN SZN nZN_at, .all (fun us hl => match us, hl with | [_, _], _ => rfl)⟩
  have c_is_integer : FnO l.prog w K mg base CX0 1 "is_integer" ["value"] (spIsI2 K) := ⟨⟨f1, _, ok_is_integer F1 T, PySem.W.mg_of X G a1, k1, bMk F1 (fun _ _ _ _ _ _ us hl => match us, hl with | [_], _ => rfl)⟩⟩
  have c_is_within : FnO l.prog w K mg base CX0 2 "is_within" ["value", "least", "most"] (spWithin2 K) := ⟨⟨f2, _, ok_is_within F2 T c_is_integer, PySem.W.mg_of X G a2, k2, bMk F2 (fun _ _ _ _ _ _ us hl => match us, hl with | [_, _, _], _ => rfl)⟩⟩
  have c_is_size : FnO l.prog w K mg base CX0 3 "is_size" ["value"] (spSize2 K) := ⟨⟨f3, _, ok_is_size F3 T c_is_within, PySem.W.mg_of X G a3, k3, bMk F3 (fun _ _ _ _ _ _ us hl => match us, hl with | [_], _ => rfl)⟩⟩
  have c_need_size : FnO l.prog w K mg base (L2.CX l.prog w) 4 "need_size" ["value"] (spNeedSize K CB) := ⟨⟨f4, _, ok_need_size F4 T c_is_size e_BadSize, PySem.W.mg_of X G a4, k4, bMk F4 (fun _ _ _ _ _ _ us hl => match us, hl with | [_], _ => rfl)⟩⟩
  have c_need_few : FnO l.prog w K mg base (L2.CX l.prog w) 3 "need_few" ["many"] (spNeedFew CM) := ⟨⟨f5, _, ok_need_few F5 T e_TooMany, PySem.W.mg_of X G a5, k5, bMk F5 (fun _ _ _ _ _ _ us hl => match us, hl with | [_], _ => rfl)⟩⟩
  have c_ends_of : FnO l.prog w K mg base CX0 1 "ends_of" ["sizes"] spEnds := ⟨⟨f6, _, ok_ends_of F6 T, PySem.W.mg_of X G a6, k6, bMk F6 (fun _ _ _ _ _ _ us hl => match us, hl with | [_], _ => rfl)⟩⟩
  have m_Chunks : McR l.prog w K mg base (L2.CX l.prog w) 5 "Chunks" C (spCk K C CB CM) := ⟨⟨g_C___init__, ok_Chunks F_C___init__ T c_need_size c_need_few c_ends_of, PySem.W.mg_of X G a_C, ⟨mk_C, a_C___init__, i_C___init__, kc_C⟩⟩⟩
  have st_of : StM l.prog w K mg base (L2.CX l.prog w) 7 C "of" ["sizes"] (spOf K C CB CC CM) := ⟨⟨.type "type", p_C_of, g_C_of, _, rest_C_of, ⟨sr_C, sg_C⟩, sf_C_of, sc_C_of, rfl, k_C_of, ok_of F_C_of T m_Chunks e_BadChunks, bMk F_C_of (fun _ _ _ _ _ _ us hl => match us, hl with | [_], _ => rfl), bkMk F_C_of (fun _ _ _ _ _ _ us hl => match us, hl with | [_], _ => rfl)⟩⟩
  have me_len : Me l.prog w K mg base C "__len__" 1 ["self"] (spLenC C) := ⟨⟨g_C___len__, _, a_C___len__, i_C___len__, ok_len F_C___len__ T, bMk F_C___len__ (fun _ _ _ _ _ _ us hl => match us, hl with | [_], _ => rfl)⟩⟩
  have me_eq : Me l.prog w K mg base C "__eq__" 1 ["self", "other"] (spCkEq K C) := ⟨⟨g_C___eq__, _, a_C___eq__, i_C___eq__, ok_eq F_C___eq__ T, bMk F_C___eq__ (fun _ _ _ _ _ _ us hl => match us, hl with | [_, _], _ => rfl)⟩⟩
  have me_str : Me l.prog w K mg base C "__str__" 1 ["self"] (spStrC C) := ⟨⟨g_C___str__, _, a_C___str__, i_C___str__, ok_str F_C___str__ T, bMk F_C___str__ (fun _ _ _ _ _ _ us hl => match us, hl with | [_], _ => rfl)⟩⟩
  have me_cont : Me l.prog w K mg base C "__contains__" 2 ["self", "value"] (spContC K C) := ⟨⟨g_C___contains__, _, a_C___contains__, i_C___contains__, ok_contains F_C___contains__ T c_is_integer, bMk F_C___contains__ (fun _ _ _ _ _ _ us hl => match us, hl with | [_, _], _ => rfl)⟩⟩
  have c_is_integerS : FnO l.prog w K mg base CX0 1 "is_integer" ["value"] spIsIS := ⟨⟨f1, _, ok_is_integerS F1 T, PySem.W.mg_of X G a1, k1, bMk F1 (fun _ _ _ _ _ _ us hl => match us, hl with | [_], _ => rfl)⟩⟩
  have it_own : OwnIt l.prog w K mg base C 1 (spIterC C) := ⟨⟨g_C___iter__, _, a_C___iter__, i_C___iter__, ok_iter F_C___iter__ T (PySem.W.mg_none_of X G z_iter), bMk F_C___iter__ (fun _ _ _ _ _ _ us hl => match us, hl with | [_], _ => rfl)⟩⟩
  have get_i : GetM l.prog w K mg base C 7 ["self", "at"] (spGetI C CN) := ⟨⟨g_C___getitem__, _, a_C___getitem__, i_C___getitem__, fi_C, ns_C, rfl, ok_getI F_C___getitem__ T c_is_integer m_Chunks e_NoChunk, bMk F_C___getitem__ (fun _ _ _ _ _ _ us hl => match us, hl with | [_, _], _ => rfl)⟩⟩
  have get_s : GetM l.prog w K mg base C 7 ["self", "at"] (spGetS C) := ⟨⟨g_C___getitem__, _, a_C___getitem__, i_C___getitem__, fi_C, ns_C, rfl, ok_getS F_C___getitem__ T c_is_integerS m_Chunks e_NoChunk, bMk F_C___getitem__ (fun _ _ _ _ _ _ us hl => match us, hl with | [_, _], _ => rfl)⟩⟩
  have FH : HeF K mg := ⟨f7, _, F7, PySem.W.mg_of X G a7, bMk F7 (fun _ _ _ _ _ _ us hl => match us, hl with | [_], _ => rfl)⟩
  have F5 : Kit5 K CB CC CM CT CN := ⟨k5CCCB, k5CCCT, k5CCCN, k5CCCM, k5CBCC, k5CBCT, k5CBCN, k5CBCM, k5CTCC, k5CTCB, k5CTCN, k5CTCM, k5CNCC, k5CNCB, k5CNCT, k5CNCM, k5CMCC, k5CMCB, k5CMCT, k5CMCN⟩
  have c__law_pen : Fn l.prog w K mg base CX0 1 "_law_pen" ["_law_script"] (spPen K) := fnMk F8 (ok_pen F8 T) (PySem.W.mg_of X G a8) (fun _ _ _ _ _ _ us hl => match us, hl with | [_], _ => rfl) (fun _ _ _ _ _ _ us hl => match us, hl with | [_], _ => rfl)
  have c__law_draw : Fn l.prog w K mg base CX0 1 "_law_draw" ["_law_pen_here", "_law_many"] spDraw := fnMk F9 (ok_draw F9 T) (PySem.W.mg_of X G a9) (fun _ _ _ _ _ _ us hl => match us, hl with | [_, _], _ => rfl) (fun _ _ _ _ _ _ us hl => match us, hl with | [_, _], _ => rfl)
  have c__law_pick : Fn l.prog w K mg base CX0 2 "_law_pick" ["_law_pen_here", "_law_some"] spPick := fnMk F10 (ok_pick F10 T c__law_draw) (PySem.W.mg_of X G a10) (fun _ _ _ _ _ _ us hl => match us, hl with | [_, _], _ => rfl) (fun _ _ _ _ _ _ us hl => match us, hl with | [_, _], _ => rfl)
  have c__law_sizes : Fn l.prog w K mg base CX0 3 "_law_sizes" ["_law_pen_here", "_law_most"] spSizes := fnMk F11 (ok_sizes F11 T c__law_draw c__law_pick) (PySem.W.mg_of X G a11) (fun _ _ _ _ _ _ us hl => match us, hl with | [_, _], _ => rfl) (fun _ _ _ _ _ _ us hl => match us, hl with | [_, _], _ => rfl)
  have c__law_made : Fn l.prog w K mg base CX0 9 "_law_made" ["_law_pen_here", "_law_sizes_here"] (spMade C) := fnMk F12 (ok_made F12 T c__law_draw st_of m_Chunks) (PySem.W.mg_of X G a12) (fun _ _ _ _ _ _ us hl => match us, hl with | [_, _], _ => rfl) (fun _ _ _ _ _ _ us hl => match us, hl with | [_, _], _ => rfl)
  have c__law_parts_right : Fn l.prog w K mg base CX0 9 "_law_parts_right" ["_law_made_here", "_law_sizes_here"] (spParts C) := fnMk F13 (ok_parts F13 T me_len nb_C it_own) (PySem.W.mg_of X G a13) (fun _ _ _ _ _ _ us hl => match us, hl with | [_, _], _ => rfl) (fun _ _ _ _ _ _ us hl => match us, hl with | [_, _], _ => rfl)
  have c__law_asked_right : Fn l.prog w K mg base CX0 14 "_law_asked_right" ["_law_pen_here", "_law_made_here", "_law_sizes_here"] (spAsk [(Pt, lamQ1), (Pt1, lamQ2), (Pt2, lamQ3)] C) := fnMk (F14.fun k14) (ok_asked F14 (tb _ List.mem_cons_self) List.mem_cons_self (fun p hp e => tt_uniq hPd hp List.mem_cons_self e) T F5 FH c__law_draw c__law_pick me_cont get_i get_s) (PySem.W.mg_of X G a14) (fun _ _ _ _ _ _ us hl => match us, hl with | [_, _, _], _ => rfl) (fun _ _ _ _ _ _ us hl => match us, hl with | [_, _, _], _ => rfl)
  have c__law_equal_right : Fn l.prog w K mg base CX0 11 "_law_equal_right" ["_law_pen_here", "_law_made_here", "_law_sizes_here"] (spEqR [(Pt, lamQ1), (Pt1, lamQ2), (Pt2, lamQ3)] C) := fnMk F15 (ok_equal F15 T c__law_pick st_of me_eq me_str) (PySem.W.mg_of X G a15) (fun _ _ _ _ _ _ us hl => match us, hl with | [_, _, _], _ => rfl) (fun _ _ _ _ _ _ us hl => match us, hl with | [_, _, _], _ => rfl)
  have c__law_refused_right : Fn l.prog w K mg base CX0 14 "_law_refused_right" ["_law_pen_here", "_law_sizes_here"] (spRefR [(Pt, lamQ1), (Pt1, lamQ2), (Pt2, lamQ3)]) := fnMk (F16.fun k16) (ok_refused F16 (tb _ (List.mem_cons_of_mem _ List.mem_cons_self)) (List.mem_cons_of_mem _ List.mem_cons_self) (fun p hp e => tt_uniq hPd hp (List.mem_cons_of_mem _ List.mem_cons_self) e) T F5 FH c__law_draw c__law_pick st_of m_Chunks) (PySem.W.mg_of X G a16) (fun _ _ _ _ _ _ us hl => match us, hl with | [_, _], _ => rfl) (fun _ _ _ _ _ _ us hl => match us, hl with | [_, _], _ => rfl)
  exact ok_law F17 (tb _ (List.mem_cons_of_mem _ (List.mem_cons_of_mem _ List.mem_cons_self))) (List.mem_cons_of_mem _ (List.mem_cons_of_mem _ List.mem_cons_self)) (fun p hp e => tt_uniq hPd hp (List.mem_cons_of_mem _ (List.mem_cons_of_mem _ List.mem_cons_self)) e) T F5 FH ⟨sr_C, sg_C⟩ ⟨_, cv_C, ⟨_, rfl⟩⟩ c__law_pen c__law_sizes c__law_made c__law_parts_right c__law_asked_right c__law_equal_right c__law_refused_right st_of me_len
end K09
end
section
namespace L3
open PySem PySem.W
def kmOb (a t : List Addr) (s : SharedT) : List (Option Obj) × List (Option Obj) := (a.map (HandSHeadRun.getT s), t.map (HandSHeadRun.getT s))
theorem kmOb_eq {K : Params → Frag} {a : List Addr} {e : ∀ P, a = (K P).map (·.1)} {t : List Addr} (s : SharedT) : kmOb a t s = (kmHook K a e t).obs s.abs := by
  have h : HandSHeadRun.getT s = s.abs.heap.get? := funext (HandSHeadRun.getT_eq s)
  unfold kmOb
  rw [h]; rfl
def looseN : List PySem.Str := (["_wall", "MOST_SIZE", "is_integer", "is_within", "is_size", "LateError", "BadSize", "BadTotal", "BadChunks", "BadText", "NoChunk", "TooMany", "MOST_FIGURES", "number_of", "is_figures", "MOST_CHUNKS", "MOST_ITEMS", "need_size", "need_few", "need_other", "ends_of", "between", "Chunks", "read_sizes", "_law_pen", "_law_draw", "_law_pick", "_law_heard", "_law_sizes", "_law_made"] : List PySem.Str) ++ (["_law_parts_right", "_law_asked_right", "_law_equal_right", "_law_refused_right"] : List PySem.Str)
end L3
open PySem PySem.W PyProof.Rows
local macro_rules | `(tactic| o_head (kmHook $K $a $e $t)) => `(tactic| (refine HandSHeadRun.head_any (r := (OpenLaw.row PySem.Challenge.rw_latechunks_k09_chunks_made_and_refused)) (q := view (OpenLaw.row PySem.Challenge.rw_latechunks_k09_chunks_made_and_refused).prog [39]) (H := kmHook $K $a $e $t) (ob := L3.kmOb $a $t) (M := 30000) (loose := L3.looseN) (d := HandSHeadRun.topDef ((OpenLaw.row PySem.Challenge.rw_latechunks_k09_chunks_made_and_refused)).prog 39) (kwd := []) L3.kmOb_eq (by kernel_rfl) (fun s => by kernel_rfl) (fun w os => by kernel_rfl) (by kernel_rfl) (by kernel_rfl) (by kernel_rfl) (by rfl) (by first | assumption | decide +kernel) (by decide +kernel) ⟨rfl, rfl, rfl, rfl, rfl, by decide +kernel⟩ ?hw ?hc))
set_option maxRecDepth 100000 in
set_option maxHeartbeats 0 in
theorem PySem.Challenge.cw_latechunks_k09_chunks_made_and_refused_holds : PySem.Challenge.rw_latechunks_k09_chunks_made_and_refused.Holds := by
  w_on; o_law; k_head; (case hw => w_witness2)
  k_fill
  refine L3.walkG (l := PySem.Challenge.rw_latechunks_k09_chunks_made_and_refused) (n := 63) (k := 16) (x := "_law_script") (CX := fun _ => L2.CX0) rfl (by decide) (by kernel_rfl) ⟨rfl, by decide, by decide⟩ (fun w h Y => PySem.W.km_in_of Y) ?F (fun _ _ _ _ _ z => z)
  case F =>
    intro w mg fa h Y KX G hmg0
    have hmg : mg ("law" : PySem.Str) = some (.ref fa) := by
      have e : (HandSHeadRun.topDef ((OpenLaw.row PySem.Challenge.rw_latechunks_k09_chunks_made_and_refused)).prog 39).name = ("law" : PySem.Str) := by kernel_rfl
      rw [← e]
      exact hmg0
    refine' K09.all_mk (Pt := 467) (Pt1 := 477) (Pt2 := 484) KX G hmg ?a1 ?l1 ?c1 ?k1 ?a2 ?l2 ?c2 ?k2 ?a3 ?l3 ?c3 ?k3 ?a4 ?l4 ?c4 ?k4 ?a5 ?l5 ?c5 ?k5 ?a6 ?l6 ?c6 ?k6 ?a7 ?l7 ?c7 ?k7 ?a8 ?l8 ?c8 ?k8 ?a9 ?l9 ?c9 ?k9 ?a10 ?l10 ?c10 ?k10 ?a11 ?l11 ?c11 ?k11 ?a12 ?l12 ?c12 ?k12 ?a13 ?l13 ?c13 ?k13 ?a14 ?l14 ?c14 ?k14 ?a15 ?l15 ?c15 ?k15 ?a16 ?l16 ?c16 ?k16 ?a17 ?l17 ?c17 ?k17 ?a_C ?a_C___init__ ?l_C___init__ ?c_C___init__ ?k_C___init__ ?i_C___init__ ?a_C___eq__ ?l_C___eq__ ?c_C___eq__ ?k_C___eq__ ?i_C___eq__ ?a_C___len__ ?l_C___len__ ?c_C___len__ ?k_C___len__ ?i_C___len__ ?a_C___str__ ?l_C___str__ ?c_C___str__ ?k_C___str__ ?i_C___str__ ?a_C___iter__ ?l_C___iter__ ?c_C___iter__ ?k_C___iter__ ?i_C___iter__ ?a_C___contains__ ?l_C___contains__ ?c_C___contains__ ?k_C___contains__ ?i_C___contains__ ?a_C___getitem__ ?l_C___getitem__ ?c_C___getitem__ ?k_C___getitem__ ?i_C___getitem__ ?mk_C ?pg_C ?hd_C ?po_C ?sa_C ?kc_C ?ya_C ?yb ?yc ?yd_C ?yk_C ?n_C_sizes ?n_C_ends ?n_C_total ?n_C_rests ?cf1_C ?cf2_C ?cf3_C ?cf5_C ?sr_C ?sg_C ?sf_C_of ?sc_C_of ?l_C_of ?c_C_of ?k_C_of ?a_CL ?aZB ?iZB ?tZB ?lZB ?cZB ?eZB ?sZB ?xZB ?yZB ?kZB ?qZB ?uZB ?vZB ?wZB ?mZB ?pZB ?bZB ?zS ?tS ?oB ?nZB_value ?gZB ?hZB ?dZB ?jZB ?rZB ?k1ZB ?emZB ?kVZB ?aZT ?iZT ?tZT ?lZT ?cZT ?eZT ?sZT ?xZT ?yZT ?kZT ?qZT ?uZT ?vZT ?wZT ?mZT ?pZT ?bZT ?nZT_value ?gZT ?hZT ?dZT ?jZT ?rZT ?k1ZT ?emZT ?kVZT ?aZC ?iZC ?tZC ?lZC ?cZC ?eZC ?sZC ?xZC ?yZC ?kZC ?qZC ?uZC ?vZC ?wZC ?mZC ?pZC ?bZC ?nZC_part ?gZC ?hZC ?dZC ?jZC ?rZC ?k1ZC ?emZC ?kVZC ?aZM ?iZM ?tZM ?lZM ?cZM ?eZM ?sZM ?xZM ?yZM ?kZM ?qZM ?uZM ?vZM ?wZM ?mZM ?pZM ?bZM ?nZM_what ?nZM_most ?gZM ?hZM ?dZM ?jZM ?rZM ?k1ZM ?emZM ?kVZM ?aZN ?iZN ?tZN ?lZN ?cZN ?eZN ?sZN ?xZN ?yZN ?kZN ?qZN ?uZN ?vZN ?wZN ?mZN ?pZN ?bZN ?nZN_at ?gZN ?hZN ?dZN ?jZN ?rZN ?k1ZN ?emZN ?kVZN ?aZW ?iZW ?tZW ?lZW ?cZW ?eZW ?sZW ?xZW ?yZW ?kZW ?qZW ?uZW ?vZW ?wZW ?mZW ?pZW ?bZW ?nZW_line ?nZW_word ?gZW ?hZW ?dZW ?jZW ?rZW ?k1ZW ?emZW ?kVZW ?kMW ?kWM ?kCI ?kCS ?kCLT ?kTC ?gMS ?gMC ?gMI ?gMF ?z_iter ?nb_C ?ns_C ?fi_C ?cv_C ?digs ?k5CCCB ?k5CCCT ?k5CCCN ?k5CCCM ?k5CBCC ?k5CBCT ?k5CBCN ?k5CBCM ?k5CTCB ?k5CTCC ?k5CTCN ?k5CTCM ?k5CNCB ?k5CNCC ?k5CNCT ?k5CNCM ?k5CMCB ?k5CMCC ?k5CMCT ?k5CMCN ?z_isinstance ?z_int ?z_bool ?z_len ?z_abs ?z_list ?z_tuple ?z_range ?z_repr ?z_str ?z_zip ?z_min ?z_max ?z_all ?z_sorted ?z_enumerate ?z_ValueError ?hCPt ?nPPt ?hCPt1 ?nPPt1 ?hCPt2 ?nPPt2 ?tPPt ?tPPt1 ?tPPt2 ?hPd0
    (case a1 => k_is)
    (case l1 => k_is)
    (case c1 => k_is)
    (case k1 => k_is)
    (case a2 => k_is)
    (case l2 => k_is)
    (case c2 => k_is)
    (case k2 => k_is)
    (case a3 => k_is)
    (case l3 => k_is)
    (case c3 => k_is)
    (case k3 => k_is)
    (case a4 => k_is)
    (case l4 => k_is)
    (case c4 => k_is)
    (case k4 => k_is)
    (case a5 => k_is)
    (case l5 => k_is)
    (case c5 => k_is)
    (case k5 => k_is)
    (case a6 => k_is)
    (case l6 => k_is)
    (case c6 => k_is)
    (case k6 => k_is)
    (case a7 => k_is)
    (case l7 => k_is)
    (case c7 => k_is)
    (case k7 => k_is)
    (case a8 => k_is)
    (case l8 => k_is)
    (case c8 => k_is)
    (case k8 => k_is)
    (case a9 => k_is)
    (case l9 => k_is)
    (case c9 => k_is)
    (case k9 => k_is)
    (case a10 => k_is)
    (case l10 => k_is)
    (case c10 => k_is)
    (case k10 => k_is)
    (case a11 => k_is)
    (case l11 => k_is)
    (case c11 => k_is)
    (case k11 => k_is)
    (case a12 => k_is)
    (case l12 => k_is)
    (case c12 => k_is)
    (case k12 => k_is)
    (case a13 => k_is)
    (case l13 => k_is)
    (case c13 => k_is)
    (case k13 => k_is)
    (case a14 => k_is)
    (case l14 => k_is)
    (case c14 => k_is)
    (case k14 => k_is)
    (case a15 => k_is)
    (case l15 => k_is)
    (case c15 => k_is)
    (case k15 => k_is)
    (case a16 => k_is)
    (case l16 => k_is)
    (case c16 => k_is)
    (case k16 => k_is)
    (case a17 => k_is)
    (case l17 => k_is)
    (case c17 => k_is)
    (case k17 => k_is)
    (case a_C => k_is)
    (case a_C___init__ => k_is)
    (case l_C___init__ => k_is)
    (case c_C___init__ => k_is)
    (case k_C___init__ => k_is)
    (case i_C___init__ => k_is)
    (case a_C___eq__ => k_is)
    (case l_C___eq__ => k_is)
    (case c_C___eq__ => k_is)
    (case k_C___eq__ => k_is)
    (case i_C___eq__ => k_is)
    (case a_C___len__ => k_is)
    (case l_C___len__ => k_is)
    (case c_C___len__ => k_is)
    (case k_C___len__ => k_is)
    (case i_C___len__ => k_is)
    (case a_C___str__ => k_is)
    (case l_C___str__ => k_is)
    (case c_C___str__ => k_is)
    (case k_C___str__ => k_is)
    (case i_C___str__ => k_is)
    (case a_C___iter__ => k_is)
    (case l_C___iter__ => k_is)
    (case c_C___iter__ => k_is)
    (case k_C___iter__ => k_is)
    (case i_C___iter__ => k_is)
    (case a_C___contains__ => k_is)
    (case l_C___contains__ => k_is)
    (case c_C___contains__ => k_is)
    (case k_C___contains__ => k_is)
    (case i_C___contains__ => k_is)
    (case a_C___getitem__ => k_is)
    (case l_C___getitem__ => k_is)
    (case c_C___getitem__ => k_is)
    (case k_C___getitem__ => k_is)
    (case i_C___getitem__ => k_is)
    (case mk_C => k_is)
    (case pg_C => k_is)
    (case hd_C => k_is)
    (case po_C => k_is)
    (case sa_C => k_is)
    (case kc_C => k_is)
    (case ya_C => k_is)
    (case yb => k_is)
    (case yc => k_is)
    (case yd_C => k_is)
    (case yk_C => kernel_rfl)
    (case n_C_sizes => k_is)
    (case n_C_ends => k_is)
    (case n_C_total => k_is)
    (case n_C_rests => k_is)
    (case cf1_C => kernel_rfl)
    (case cf2_C => first | k_is | kernel_rfl)
    (case cf3_C => kernel_rfl)
    (case cf5_C => k_is)
    (case sr_C => k_is)
    (case sg_C => k_is)
    (case sf_C_of => k_is)
    (case sc_C_of => k_is)
    (case l_C_of => k_is)
    (case c_C_of => k_is)
    (case k_C_of => k_is)
    (case a_CL => k_is)
    (case aZB => k_is)
    (case iZB => k_is)
    (case tZB => k_is)
    (case lZB => k_is)
    (case cZB => k_is)
    (case eZB => exact ⟨_, _, _, _, _, _, _, _, _, _, _, _, _, _, _, by k_is, by decide +kernel⟩)
    (case sZB => k_is)
    (case xZB => k_is)
    (case yZB => k_is)
    (case kZB => k_is)
    (case qZB => k_is)
    (case uZB => k_is)
    (case vZB => rfl)
    (case wZB => first | rfl | decide +kernel)
    (case mZB => k_is)
    (case pZB => first | k_is | kernel_rfl)
    (case bZB => k_is)
    (case zS => k_is)
    (case tS => first | rfl | decide +kernel | kernel_rfl)
    (case oB => k_is)
    (case nZB_value => k_is)
    (case gZB => k_is)
    (case hZB => k_is)
    (case dZB => k_is)
    (case jZB => k_is)
    (case rZB => k_is)
    (case k1ZB => kernel_rfl)
    (case emZB => kernel_rfl)
    (case kVZB => kernel_rfl)
    (case aZT => k_is)
    (case iZT => k_is)
    (case tZT => k_is)
    (case lZT => k_is)
    (case cZT => k_is)
    (case eZT => exact ⟨_, _, _, _, _, _, _, _, _, _, _, _, _, _, _, by k_is, by decide +kernel⟩)
    (case sZT => k_is)
    (case xZT => k_is)
    (case yZT => k_is)
    (case kZT => k_is)
    (case qZT => k_is)
    (case uZT => k_is)
    (case vZT => rfl)
    (case wZT => first | rfl | decide +kernel)
    (case mZT => k_is)
    (case pZT => first | k_is | kernel_rfl)
    (case bZT => k_is)
    (case nZT_value => k_is)
    (case gZT => k_is)
    (case hZT => k_is)
    (case dZT => k_is)
    (case jZT => k_is)
    (case rZT => k_is)
    (case k1ZT => kernel_rfl)
    (case emZT => kernel_rfl)
    (case kVZT => kernel_rfl)
    (case aZC => k_is)
    (case iZC => k_is)
    (case tZC => k_is)
    (case lZC => k_is)
    (case cZC => k_is)
    (case eZC => exact ⟨_, _, _, _, _, _, _, _, _, _, _, _, _, _, _, by k_is, by decide +kernel⟩)
    (case sZC => k_is)
    (case xZC => k_is)
    (case yZC => k_is)
    (case kZC => k_is)
    (case qZC => k_is)
    (case uZC => k_is)
    (case vZC => rfl)
    (case wZC => first | rfl | decide +kernel)
    (case mZC => k_is)
    (case pZC => first | k_is | kernel_rfl)
    (case bZC => k_is)
    (case nZC_part => k_is)
    (case gZC => k_is)
    (case hZC => k_is)
    (case dZC => k_is)
    (case jZC => k_is)
    (case rZC => k_is)
    (case k1ZC => kernel_rfl)
    (case emZC => kernel_rfl)
    (case kVZC => kernel_rfl)
    (case aZM => k_is)
    (case iZM => k_is)
    (case tZM => k_is)
    (case lZM => k_is)
    (case cZM => k_is)
    (case eZM => exact ⟨_, _, _, _, _, _, _, _, _, _, _, _, _, _, _, by k_is, by decide +kernel⟩)
    (case sZM => k_is)
    (case xZM => k_is)
    (case yZM => k_is)
    (case kZM => k_is)
    (case qZM => k_is)
    (case uZM => k_is)
    (case vZM => rfl)
    (case wZM => first | rfl | decide +kernel)
    (case mZM => k_is)
    (case pZM => first | k_is | kernel_rfl)
    (case bZM => k_is)
    (case nZM_what => k_is)
    (case nZM_most => k_is)
    (case gZM => k_is)
    (case hZM => k_is)
    (case dZM => k_is)
    (case jZM => k_is)
    (case rZM => k_is)
    (case k1ZM => kernel_rfl)
    (case emZM => kernel_rfl)
    (case kVZM => kernel_rfl)
    (case aZN => k_is)
    (case iZN => k_is)
    (case tZN => k_is)
    (case lZN => k_is)
    (case cZN => k_is)
    (case eZN => exact ⟨_, _, _, _, _, _, _, _, _, _, _, _, _, _, _, by k_is, by decide +kernel⟩)
    (case sZN => k_is)
    (case xZN => k_is)
    (case yZN => k_is)
    (case kZN => k_is)
    (case qZN => k_is)
    (case uZN => k_is)
    (case vZN => rfl)
    (case wZN => first | rfl | decide +kernel)
    (case mZN => k_is)
    (case pZN => first | k_is | kernel_rfl)
    (case bZN => k_is)
    (case nZN_at => k_is)
    (case gZN => k_is)
    (case hZN => k_is)
    (case dZN => k_is)
    (case jZN => k_is)
    (case rZN => k_is)
    (case k1ZN => kernel_rfl)
    (case emZN => kernel_rfl)
    (case kVZN => kernel_rfl)
    (case aZW => k_is)
    (case iZW => k_is)
    (case tZW => k_is)
    (case lZW => k_is)
    (case cZW => k_is)
    (case eZW => exact ⟨_, _, _, _, _, _, _, _, _, _, _, _, _, _, _, by k_is, by decide +kernel⟩)
    (case sZW => k_is)
    (case xZW => k_is)
    (case yZW => k_is)
    (case kZW => k_is)
    (case qZW => k_is)
    (case uZW => k_is)
    (case vZW => rfl)
    (case wZW => first | rfl | decide +kernel)
    (case mZW => k_is)
    (case pZW => first | k_is | kernel_rfl)
    (case bZW => k_is)
    (case nZW_line => k_is)
    (case nZW_word => k_is)
    (case gZW => k_is)
    (case hZW => k_is)
    (case dZW => k_is)
    (case jZW => k_is)
    (case rZW => k_is)
    (case k1ZW => kernel_rfl)
    (case emZW => kernel_rfl)
    (case kVZW => kernel_rfl)
    (case kMW => kernel_rfl)
    (case kWM => kernel_rfl)
    (case kCI => kernel_rfl)
    (case kCS => kernel_rfl)
    (case kCLT => kernel_rfl)
    (case kTC => kernel_rfl)
    (case gMS => k_is)
    (case gMC => k_is)
    (case gMI => k_is)
    (case gMF => k_is)
    (case z_iter => k_is)
    (case nb_C => k_is)
    (case ns_C => first | k_is | kernel_rfl)
    (case fi_C => first | k_is | kernel_rfl)
    (case cv_C => k_is)
    (case digs => k_is)
    (case k5CCCB => kernel_rfl)
    (case k5CCCT => kernel_rfl)
    (case k5CCCN => kernel_rfl)
    (case k5CCCM => kernel_rfl)
    (case k5CBCC => kernel_rfl)
    (case k5CBCT => kernel_rfl)
    (case k5CBCN => kernel_rfl)
    (case k5CBCM => kernel_rfl)
    (case k5CTCB => kernel_rfl)
    (case k5CTCC => kernel_rfl)
    (case k5CTCN => kernel_rfl)
    (case k5CTCM => kernel_rfl)
    (case k5CNCB => kernel_rfl)
    (case k5CNCC => kernel_rfl)
    (case k5CNCT => kernel_rfl)
    (case k5CNCM => kernel_rfl)
    (case k5CMCB => kernel_rfl)
    (case k5CMCC => kernel_rfl)
    (case k5CMCT => kernel_rfl)
    (case k5CMCN => kernel_rfl)
    (case z_isinstance => k_is)
    (case z_int => k_is)
    (case z_bool => k_is)
    (case z_len => k_is)
    (case z_abs => k_is)
    (case z_list => k_is)
    (case z_tuple => k_is)
    (case z_range => k_is)
    (case z_repr => k_is)
    (case z_str => k_is)
    (case z_zip => k_is)
    (case z_min => k_is)
    (case z_max => k_is)
    (case z_all => k_is)
    (case z_sorted => k_is)
    (case z_enumerate => k_is)
    (case z_ValueError => k_is)
    (case hCPt => kernel_rfl)
    (case nPPt => kernel_rfl)
    (case hCPt1 => kernel_rfl)
    (case nPPt1 => kernel_rfl)
    (case hCPt2 => kernel_rfl)
    (case nPPt2 => kernel_rfl)
    (case tPPt => first | exact PySem.W.km_tabs_of Y _ (by k_mem) | (trace_state; exact PySem.W.km_tabs_of Y _ (by k_mem)))
    (case tPPt1 => first | exact PySem.W.km_tabs_of Y _ (by k_mem) | (trace_state; exact PySem.W.km_tabs_of Y _ (by k_mem)))
    (case tPPt2 => first | exact PySem.W.km_tabs_of Y _ (by k_mem) | (trace_state; exact PySem.W.km_tabs_of Y _ (by k_mem)))
    (case hPd0 => decide)
end
