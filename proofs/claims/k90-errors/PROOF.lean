import PyProof.Rows.All
import Wide.All
import OpenK.AllK
import Wide.FinOn
import HandS.ForMost
import HandS.Deep
import HandS.IsInst
import HandS.Wide
import HandS.Flow
import HandS.Style
import HandS.Conv
import HandS.Codes
import PyProof.ReprRoads
import KE.GoesMore
import KE.KExcSuper
import HandS.ExcInit
import HandS.ExcSuper
import HandS.TryMany
import HandS.ExcIs
import HandS.ExcField
import HandS.ExcOwn
import HandS.WordsExc
import HandS.TupAny
import HandS.Zip
import PySem.Challenge.RW_rowsinplace_k90_errors_made
set_option Elab.async false
set_option linter.all false
set_option maxRecDepth 100000
set_option maxHeartbeats 4000000
namespace G
open PySem PySem.Spec L2
/-! ### heaps: what stays -/
/-- what is no tagged thing -/
def pl : HO → Prop
  | .ext _ => False
  | _ => True
/-- all that is tracked and not tagged stays; what is tagged stays tagged -/
structure Kp (H H' : Hp) : Prop where
  get : ∀ a o, H a = some o → pl o → H' a = some o
  tag : ∀ a φ, H a = some (.ext φ) → ∃ ψ, H' a = some (.ext ψ)
theorem Kp.refl (H : Hp) : Kp H H := ⟨fun _ _ h _ => h, fun _ φ h => ⟨φ, h⟩⟩
theorem Kp.trans {H H1 H2 : Hp} (a : Kp H H1) (b : Kp H1 H2) : Kp H H2 := ⟨fun x o h p => b.get x o (a.get x o h p) p, fun x φ h => by
  obtain ⟨ψ, h1⟩ := a.tag x φ h
  exact b.tag x ψ h1⟩
theorem kp_same {H H' : Hp} (e : Same H H') : Kp H H' := ⟨fun a o h _ => e a o h, fun a φ h => ⟨φ, e a _ h⟩⟩
theorem same_new {H : Hp} {p : Addr} {o : HO} (h : H p = none) : Same H (upd H p o) := fun b x e => by
  rw [upd_ne (ne_of_none e h)]
  exact e
theorem kp_new {H : Hp} {p : Addr} {o : HO} (h : H p = none) : Kp H (upd H p o) := kp_same (same_new h)
/-- an object that H does not know may change -/
theorem Kp.mut {H H' : Hp} {p : Addr} {o : HO} (e : Kp H H') (h : H p = none) : Kp H (upd H' p o) := ⟨fun a u ha hp => by
  rw [upd_ne (ne_of_none ha h)]
  exact e.get a u ha hp, fun a φ ha => by
  rw [upd_ne (ne_of_none ha h)]
  exact e.tag a φ ha⟩
theorem same_mut {H H' : Hp} {p : Addr} {o : HO} (e : Same H H') (h : H p = none) : Same H (upd H' p o) := fun a u ha => by
  rw [upd_ne (ne_of_none ha h)]
  exact e a u ha
/-- a tagged object may change -/
theorem Kp.tagged {H H' : Hp} {p : Addr} {φ ψ : Heap → Prop} (e : Kp H H') (h : H p = some (.ext φ)) : Kp H (upd H' p (.ext ψ)) := ⟨fun a u ha hp => by
  have n : a ≠ p := by
    intro z
    subst z
    rw [h] at ha
    cases ha
    exact hp
  rw [upd_ne n]
  exact e.get a u ha hp, fun a χ ha => by
  by_cases n : a = p
  · subst n
    exact ⟨ψ, upd_same⟩
  · rw [upd_ne n]
    exact e.tag a χ ha⟩
theorem Kp.free {H H' : Hp} {q : Addr} (e : Kp H H') (h : H' q = none) : H q = none := by
  cases z : H q with
  | none => rfl
  | some o =>
    exfalso
    by_cases hp : pl o
    · rw [e.get q o z hp] at h
      cases h
    · cases o with
      | ext φ =>
        obtain ⟨ψ, h1⟩ := e.tag q φ z
        rw [h1] at h
        cases h
      | _ => exact hp trivial
theorem same_get {H H' : Hp} {a : Addr} {o : HO} (e : Same H H') (h : H a = some o) : H' a = some o := e a o h
theorem kp_get {H H' : Hp} {a : Addr} {o : HO} (e : Kp H H') (h : H a = some o) (p : pl o) : H' a = some o := e.get a o h p
theorem kp_rd {H H' : Hp} {a : Addr} {u : HO} (e : Kp H H') (hp : pl u) (h : Rd H a u) : Rd H' a u := by
  rcases h with h | ⟨o, h⟩
  · exact .inl (e.get a _ h hp)
  · exact .inr ⟨o, e.get a _ h trivial⟩
theorem Kp.sl {K : PySem.W.Frag} {H H' : Hp} {a : Addr} {xs : List V} (e : Kp H H') (h : SqL K H a xs) : SqL K H' a xs := by
  rcases h with h | h
  · exact .inl (kp_rd e trivial h)
  · exact .inr h
theorem Kp.st {K : PySem.W.Frag} {H H' : Hp} {a : Addr} {xs : List V} (e : Kp H H') (h : SqT K H a xs) : SqT K H' a xs := by
  rcases h with h | h
  · exact .inl (kp_rd e trivial h)
  · exact .inr h
mutual
theorem Kp.dp {K : PySem.W.Frag} {H H' : Hp} (e : Kp H H') : ∀ (d : PyData) (v : V), Dp K H v d → Dp K H' v d
  | .none, _, h => by cases h; exact .non
  | .bool b, _, h => by cases h; exact .bl b
  | .int i, _, h => by cases h; exact .int i
  | .str x, _, h => by cases h; exact .str x
  | .list ds, _, h => by
    cases h with
    | lst hs ha => exact .lst (e.sl hs) (Kp.dps e ds _ ha)
  | .tuple ds, _, h => by
    cases h with
    | tup hs ha => exact .tup (e.st hs) (Kp.dps e ds _ ha)
  | .dict _, _, h => by cases h
theorem Kp.dps {K : PySem.W.Frag} {H H' : Hp} (e : Kp H H') : ∀ (ds : List PyData) (vs : List V), DpAll K H vs ds → DpAll K H' vs ds
  | [], _, h => by cases h; exact .nil
  | d :: ds, _, h => by
    cases h with
    | cons h1 h2 => exact .cons (Kp.dp e d _ h1) (Kp.dps e ds _ h2)
end
/-! ### tagged lists -/
def tg (p : Addr) (xs : List V) : HO := .ext fun h => xs.length ≤ sizeLine ∧ ∃ (its : List Value) (n : Nat), Vals xs its ∧ h.get? p = some { cls := .type "list", data := .seq its.toArray n }
theorem tg_of {P : Program} {w : World} {H H' : Hp} {h : Heap} {p : Addr} {xs : List V} (x : ObjOk P w H h p (.lst xs)) : ObjOk P w H' h p (tg p xs) := by
  obtain ⟨z, its, n, r, e⟩ := x
  refine ⟨⟨z, its, n, r, e⟩, ⟨_, e⟩, fun h1 h2 q k => ?_⟩
  obtain ⟨z', its', n', r', e'⟩ := q
  exact ⟨z', its', n', r', k _ e'⟩
theorem of_tg {P : Program} {w : World} {H H' : Hp} {h : Heap} {p : Addr} {xs : List V} (x : ObjOk P w H h p (tg p xs)) : ObjOk P w H' h p (.lst xs) := x.1
section
variable {X : Cx} {pins : List (Addr × Obj)} {σ : St} {H : Hp} {s : Shared} {p : Addr} {xs : List V}
theorem inv_tag (I : Inv X pins σ H s) (h : H p = some (.lst xs)) : Inv X pins σ (upd H p (tg p xs)) s := by
  have o := I.hok p _ h
  obtain ⟨z, its, n, r, e⟩ := id o
  exact I.write (t' := s.toks) (h' := s.heap) (x := p) (e := p) (by rw [h]; trivial) (.inl rfl) (fun b u _ q => q) ⟨_, e⟩ (tg_of o)
theorem inv_untag (I : Inv X pins σ H s) (h : H p = some (tg p xs)) : Inv X pins σ (upd H p (.lst xs)) s := by
  have o := I.hok p _ h
  obtain ⟨z, its, n, r, e⟩ := of_tg (H' := H) o
  exact I.write (t' := s.toks) (h' := s.heap) (x := p) (e := p) (by rw [h]; trivial) (.inl rfl) (fun b u _ q => q) ⟨_, e⟩ (of_tg o)
end
def bkT (p : Addr) (k : Hp → Prop) (H' : Hp) : Prop := ∃ ys, H' p = some (.lst ys) ∧ k (upd H' p (tg p ys))
/-- a block within which the tagged list at p is a list -/
def tUntag (p : Addr) (t : TS) : TS := fun D σ H => ∃ xs, H p = some (tg p xs) ∧
  t ⟨fun σ' => bkT p (D.nx σ'), fun v => bkT p (D.rt v), fun σ' => bkT p (D.bk σ'), fun σ' => bkT p (D.ct σ')⟩ σ (upd H p (.lst xs))
theorem pss_untag {X : Cx} {sts : List Stmt} {t : TS} (p : Addr) (h : PSs X sts t) : PSs X sts (tUntag p t) := by
  refine ⟨fun pins s σ H D I hw => ?_⟩
  obtain ⟨xs, hp, hw⟩ := hw
  refine thn (h.run pins s σ _ _ (inv_untag I hp) hw) fun f s1 q => ?_
  cases f with
  | next => obtain ⟨σ', H', I2, ys, e, q⟩ := q; exact ⟨σ', _, inv_tag I2 e, q⟩
  | brk => obtain ⟨σ', H', I2, ys, e, q⟩ := q; exact ⟨σ', _, inv_tag I2 e, q⟩
  | cont => obtain ⟨σ', H', I2, ys, e, q⟩ := q; exact ⟨σ', _, inv_tag I2 e, q⟩
  | ret v => obtain ⟨x, σ', H', I2, r, ys, e, q⟩ := q; exact ⟨x, σ', _, inv_tag I2 e, r, q⟩
/-- a block that returns a new list, tagged -/
def tTagR (t : TS) : TS := fun D σ H => t { D with rt := fun v H' => ∃ p xs, v = .ref p ∧ H' p = some (.lst xs) ∧ D.rt v (upd H' p (tg p xs)) } σ H
theorem pss_tagR {X : Cx} {sts : List Stmt} {t : TS} (h : PSs X sts t) : PSs X sts (tTagR t) := by
  refine ⟨fun pins s σ H D I hw => ?_⟩
  refine thn (h.run pins s σ _ _ I hw) fun f s1 q => ?_
  cases f with
  | next => exact q
  | brk => exact q
  | cont => exact q
  | ret v => obtain ⟨x, σ', H', I2, r, p, ys, rfl, e, q⟩ := q; exact ⟨.ref p, σ', _, inv_tag I2 e, r, q⟩
end G
set_option Elab.async false
set_option linter.all false
set_option maxRecDepth 100000
set_option maxHeartbeats 4000000
namespace G
open PySem PySem.Spec L2
/-- a wish, not yet read -/
def Hold (Q : VK) (v : V) (H : Hp) : Prop := Q v H
section
variable {K : PySem.W.Frag} {σ : L2.St} {H : Hp} {D : Ends} {Q : VK} {QT : Bool → Hp → Prop} {QA : List V → Hp → Prop} {ta tb te tc : TE} {t u : TT} {ts us : TS} {ar : TA} {i : Nat} {v x y : V} {r r' : R2}
/-! ### statements -/
theorem c_seq (k : ts { D with nx := us D } σ H) : tSeq ts us D σ H := k
theorem c_asg (k : te σ H fun x H1 => D.nx (σ.set i (some x)) H1) : tAsg te (gName i) D σ H := k
theorem c_asgG {g : TG} (k : te σ H fun x H1 => g x σ H1 D.nx) : tAsg te g D σ H := k
theorem c_ret (k : te σ H D.rt) : tRet te D σ H := k
theorem c_retN (k : D.rt .non H) : tRetN D σ H := k
theorem c_drop (k : te σ H fun _ H1 => D.nx σ H1) : tDrop te D σ H := k
theorem c_if (k : t σ H fun b H1 => if b = true then ts D σ H1 else us D σ H1) : tIfS t ts us D σ H := k
theorem c_next (k : D.nx σ H) : tNext D σ H := k
theorem c_cont (k : D.ct σ H) : tCont D σ H := k
theorem c_break (k : D.bk σ H) : tBreak D σ H := k
theorem c_par {j : Nat} (k : ar σ H fun vs H1 => ∃ v w, vs = [v, w] ∧ D.nx ((σ.set i (some v)).set j (some w)) H1) : tPar i j ar D σ H := k
theorem c_par2 {j : Nat} {w : V} {P : L2.St → Hp → Prop} (k : P ((σ.set i (some v)).set j (some w)) H) : ∃ v' w', [v, w] = [v', w'] ∧ P ((σ.set i (some v')).set j (some w')) H := ⟨v, w, rfl, k⟩
/-! ### targets -/
theorem c_gn {QS : L2.St → Hp → Prop} (k : QS (σ.set i (some v)) H) : gName i v σ H QS := k
theorem c_gsub {to ti : TE} {st : TSet} {QS : L2.St → Hp → Prop} (k : to σ H fun o H1 => ti σ H1 fun i H2 => st o i v H2 fun H3 => QS σ H3) : gSub to ti st v σ H QS := k
theorem c_gtup {n : Nat} {g : TGs} {QS : L2.St → Hp → Prop} {a : Addr} {xs : List V} (h : SqT K H a xs) (hn : xs.length = n) (k : g xs σ H QS) : gTup K n g (.ref a) σ H QS := ⟨a, xs, rfl, h, hn, k⟩
theorem c_gcons {g : TG} {gs : TGs} {QS : L2.St → Hp → Prop} {vs : List V} (k : g v σ H fun σ' H' => gs vs σ' H' QS) : gCons g gs (v :: vs) σ H QS := ⟨v, vs, rfl, k⟩
theorem c_gnil {QS : L2.St → Hp → Prop} (k : QS σ H) : gNil [] σ H QS := ⟨rfl, k⟩
theorem c_setL {p : Addr} {xs : List V} {j : Int} {m : Nat} {QS : Hp → Prop} (h : H p = some (.lst xs)) (hj : ixN xs.length j = some m) (k : QS (upd H p (.lst (xs.set m v)))) : rSetL (.ref p) (.int j) v H QS := ⟨p, xs, j, m, rfl, rfl, h, hj, k⟩
/-! ### expressions -/
theorem c_var (h : σ[i]? = some (some v)) (k : Q v H) : tVar i σ H Q := ⟨v, h, k⟩
theorem c_c (k : Q v H) : tC v σ H Q := k
theorem c_op (k : ta σ H fun x H1 => tb σ H1 fun y H2 => r x y H2 Q) : tOp r ta tb σ H Q := k
theorem c_un {r1 : V → Hp → VK → Prop} (k : ta σ H fun x H1 => r1 x H1 Q) : tUn r1 ta σ H Q := k
theorem c_test (k : te σ H fun x H' => ∃ k, x = .bl k ∧ QT k H') : tTest te σ H QT := k
theorem c_B (k : te σ H fun x H' => ∃ k, x = .bl k ∧ QT k H') : tB te σ H QT := k
theorem c_and (k : t σ H fun c H1 => if c = true then u σ H1 QT else QT false H1) : tAnd t u σ H QT := k
theorem c_or (k : t σ H fun c H1 => if c = true then QT true H1 else u σ H1 QT) : tOr t u σ H QT := k
theorem c_not (k : t σ H fun c H1 => QT (!c) H1) : tNot t σ H QT := k
theorem c_andV (k : ta σ H fun x H1 => ∃ c, x = .bl c ∧ if c = true then tb σ H1 Q else Q (.bl false) H1) : tAndV ta tb σ H Q := k
theorem c_orV (k : ta σ H fun x H1 => ∃ c, x = .bl c ∧ if c = true then Q (.bl true) H1 else tb σ H1 Q) : tOrV ta tb σ H Q := k
theorem c_notV (k : ta σ H fun x H1 => ∃ c, x = .bl c ∧ Q (.bl (!c)) H1) : tNotV ta σ H Q := k
theorem c_ifE (k : t σ H fun c H1 => if c = true then ta σ H1 Q else tb σ H1 Q) : tIf t ta tb σ H Q := k
theorem c_bl {P : Bool → Prop} {b : Bool} (k : P b) : ∃ c, V.bl b = .bl c ∧ P c := ⟨b, rfl, k⟩
theorem c_chain (k : ta σ H fun x H1 => tb σ H1 fun y H2 => r x y H2 fun z H3 => ∃ k, z = .bl k ∧ (if k = true then tc σ H3 fun w' H4 => r' y w' H4 Q else Q (.bl false) H3)) : tChain r r' ta tb tc σ H Q := k
theorem c_cb {rc : List V → Hp → VK → Prop} (k : ar σ H fun vs H1 => rc vs H1 Q) : tCB rc ar σ H Q := k
theorem c_call {sp : Sp} {dvs : List V} {E : XK} (k : ar σ H fun vs H1 => sp (vs ++ dvs) H1 Q E) : tCall sp dvs E ar σ H Q := k
theorem c_cons (k : te σ H fun x H1 => ar σ H1 fun xs H2 => QA (x :: xs) H2) : tCons te ar σ H QA := k
theorem c_nil (k : QA [] H) : tNil σ H QA := k
theorem c_tupX (k : ar σ H fun xs H1 => xs.length ≤ sizeLine ∧ ∀ p, H1 p = none → Hold Q (.ref p) (upd H1 p (.tup xs))) : tTup ar σ H Q := k
theorem c_lstX (k : ar σ H fun xs H1 => xs.length ≤ sizeLine ∧ ∀ p, H1 p = none → Hold Q (.ref p) (upd H1 p (.lst xs))) : tLst ar σ H Q := k
/-- a new object, the heap named anew -/
theorem c_new {o : HO} {P : V → Hp → Prop} (k : ∀ p H1, H p = none → Same H H1 → H1 p = some o → P (.ref p) H1) : ∀ p, H p = none → Hold P (.ref p) (upd H p o) := fun p hp => k p _ hp (same_new hp) upd_same
theorem c_newS {n : Nat} {o : HO} {P : V → Hp → Prop} (k : ∀ p H1, H p = none → Same H H1 → H1 p = some o → P (.ref p) H1) (hn : n ≤ 1000000 := by first | exact Nat.le_of_ble_eq_true rfl | omega) : n ≤ sizeLine ∧ ∀ p, H p = none → Hold P (.ref p) (upd H p o) :=
  ⟨Nat.le_trans hn (by decide), fun p hp => k p _ hp (same_new hp) upd_same⟩
/-! ### operators -/
theorem c_I0 {g : Int → Int → V} {m n : Int} (k : Q (g m n) H) : rI0 g (.int m) (.int n) H Q := ⟨m, n, rfl, rfl, k⟩
theorem c_I {C : Int → Int → Prop} {g : Int → Int → V} {m n : Int} (hc : C m n) (k : Q (g m n) H) : rI C g (.int m) (.int n) H Q := ⟨m, n, rfl, rfl, hc, k⟩
theorem c_U {g : Int → V} {m : Int} (k : Q (g m) H) : rU g (.int m) H Q := ⟨m, rfl, k⟩
theorem c_eq (hs : scal x y = true) (k : Q (.bl (decide (x = y))) H) : rEq x y H Q := ⟨hs, k⟩
theorem c_ne (hs : scal x y = true) (k : Q (.bl (!decide (x = y))) H) : rNe x y H Q := ⟨hs, k⟩
theorem c_eqD {d e : PyData} (h1 : Dp K H x d) (h2 : Dp K H y e) (s1 : SeqAt.shaped d = true) (s2 : SeqAt.shaped e = true) (k : Q (.bl (PyData.eqv d e)) H) : rEqD K x y H Q := ⟨d, e, h1, h2, s1, s2, k⟩
theorem c_neD {d e : PyData} (h1 : Dp K H x d) (h2 : Dp K H y e) (s1 : SeqAt.shaped d = true) (s2 : SeqAt.shaped e = true) (k : Q (.bl (!PyData.eqv d e)) H) : rNeD K x y H Q := ⟨d, e, h1, h2, s1, s2, k⟩
theorem c_ixL {p : Addr} {xs : List V} {j : Int} (h : SqL K H p xs) (ha : atI xs j = some v) (k : Q v H) : rIxL K (.ref p) (.int j) H Q := ⟨p, xs, j, v, rfl, rfl, h, ha, k⟩
theorem c_ixT {p : Addr} {xs : List V} {j : Int} (h : SqT K H p xs) (ha : atI xs j = some v) (k : Q v H) : rIxT K (.ref p) (.int j) H Q := ⟨p, xs, j, v, rfl, rfl, h, ha, k⟩
theorem c_ixS {z : Str} {j : Int} {c : Nat} (h : z.length ≤ 100000) (ha : atI z.cps.toList j = some c) (k : Q (.str ⟨#[c]⟩) H) : rIxS (.str z) (.int j) H Q := ⟨z, j, c, rfl, rfl, Nat.le_trans h (by decide), ha, k⟩
theorem c_cat {p q : Addr} {xs ys : List V} (h1 : H p = some (.lst xs)) (h2 : H q = some (.lst ys)) (hn : xs.length + ys.length ≤ 1000000) (k : ∀ a H1, H a = none → Same H H1 → H1 a = some (.lst (xs ++ ys)) → Q (.ref a) H1) : rCat (.ref p) (.ref q) H Q :=
  ⟨p, q, xs, ys, rfl, rfl, h1, h2, Nat.le_trans hn (by decide), fun a ha => k a _ ha (same_new ha) upd_same⟩
theorem c_in {neg : Bool} {p : Addr} {xs : List V} (h : SqL K H p xs ∨ SqT K H p xs) (hx : flatV x = true) (ha : xs.all flatV = true) (k : Q (.bl (if neg then !inV x xs else inV x xs)) H) : rIn K neg x (.ref p) H Q := ⟨p, xs, rfl, h, hx, ha, k⟩
/-! ### tests undecided -/
theorem c_ite {b : Bool} {A B : Prop} (h1 : b = true → A) (h2 : b = false → B) : if b = true then A else B := by
  cases b with
  | true => exact h1 rfl
  | false => exact h2 rfl
theorem c_iteD {c : Prop} {inst : Decidable c} {A B : Prop} (h1 : c → A) (h2 : ¬ c → B) : if decide c = true then A else B := by
  by_cases h : c
  · rw [decide_eq_true h]; exact h1 h
  · rw [decide_eq_false h]; exact h2 h
theorem c_iteN {c : Prop} {inst : Decidable c} {A B : Prop} (h1 : ¬ c → A) (h2 : c → B) : if (!decide c) = true then A else B := by
  by_cases h : c
  · rw [decide_eq_true h]; exact h2 h
  · rw [decide_eq_false h]; exact h1 h
end
/-! ### sequences at hand -/
theorem sl_of {K : PySem.W.Frag} {H : Hp} {a : Addr} {xs : List V} (h : H a = some (.lst xs)) : SqL K H a xs := .inl (.inl h)
theorem st_of {K : PySem.W.Frag} {H : Hp} {a : Addr} {xs : List V} (h : H a = some (.tup xs)) : SqT K H a xs := .inl (.inl h)
/-! ### calls whose rules are written out -/
theorem c_lenL {K : PySem.W.Frag} {H : Hp} {Q : VK} {p : Addr} {ys : List V} (h : SqL K H p ys) (k : Q (.int ys.length) H) : ∃ p' ys, [V.ref p] = [.ref p'] ∧ (SqL K H p' ys ∨ SqT K H p' ys) ∧ Q (.int ys.length) H := ⟨p, ys, rfl, .inl h, k⟩
theorem c_lenT {K : PySem.W.Frag} {H : Hp} {Q : VK} {p : Addr} {ys : List V} (h : SqT K H p ys) (k : Q (.int ys.length) H) : ∃ p' ys, [V.ref p] = [.ref p'] ∧ (SqL K H p' ys ∨ SqT K H p' ys) ∧ Q (.int ys.length) H := ⟨p, ys, rfl, .inr h, k⟩
theorem c_abs {H : Hp} {Q : VK} {i : Int} (k : Q (.int (if i < 0 then -i else i)) H) : ∃ i', [V.int i] = [.int i'] ∧ Q (.int (if i' < 0 then -i' else i')) H := ⟨i, rfl, k⟩
theorem c_int {H : Hp} {Q : VK} {i : Int} (k : Q (.int i) H) : (∃ i', [V.int i] = [.int i'] ∧ Q (.int i') H) ∨ ∃ b, [V.int i] = [.bl b] ∧ Q (.int (if b = true then 1 else 0)) H := .inl ⟨i, rfl, k⟩
theorem c_intB {H : Hp} {Q : VK} {b : Bool} (k : Q (.int (if b = true then 1 else 0)) H) : (∃ i', [V.bl b] = [.int i'] ∧ Q (.int i') H) ∨ ∃ c, [V.bl b] = [.bl c] ∧ Q (.int (if c = true then 1 else 0)) H := .inr ⟨b, rfl, k⟩
theorem c_iteT {A B : Prop} (h : A) : if true = true then A else B := by rw [if_pos rfl]; exact h
theorem c_iteF {A B : Prop} (h : B) : if false = true then A else B := by rw [if_neg Bool.false_ne_true]; exact h
/-! ### places -/
theorem ixN_nn {n : Nat} {z : Int} (h0 : 0 ≤ z) (h : z < (n : Int)) : ixN n z = some z.toNat := by
  unfold ixN
  rw [if_pos h0, if_pos h]
theorem at_get {α : Type} {xs : List α} {z : Int} {x : α} (h0 : 0 ≤ z) (h : xs[z.toNat]? = some x) : atI xs z = some x := by
  have hl := (List.getElem?_eq_some_iff.mp h).1
  unfold atI
  rw [ixN_nn h0 (by omega)]
  exact h
theorem at_ints {ns : List Int} {z : Int} (h0 : 0 ≤ z) (h : z < (ns.length : Int)) : atI (ns.map V.int) z = some (.int (ns.getD z.toNat 0)) := by
  refine at_get h0 ?_
  have hl : z.toNat < ns.length := by omega
  rw [List.getElem?_map, List.getElem?_eq_getElem hl, List.getD_eq_getElem?_getD, List.getElem?_eq_getElem hl]
  rfl
theorem c_sz {n : Nat} {P : Prop} (h : n ≤ 1000000) (k : P) : n ≤ sizeLine ∧ P := ⟨Nat.le_trans h (by decide), k⟩
theorem c_szl {n : Nat} {P : Prop} (h : n < 1000000) (k : P) : n < sizeLine ∧ P := ⟨Nat.lt_of_lt_of_le h (by decide), k⟩
theorem c_isF {b : Bool} {A B : Prop} (h : b = false) (k : B) : if b = true then A else B := by rw [h]; exact c_iteF k
theorem c_isT {b : Bool} {A B : Prop} (h : b = true) (k : A) : if b = true then A else B := by rw [h]; exact c_iteT k
end G
set_option Elab.async false
set_option linter.all false
set_option maxRecDepth 100000
set_option maxHeartbeats 4000000
namespace G
open PySem PySem.Spec L2
/-! ### a def's promise where no repr is under way (guards are known to be none) -/
structure FnG (P : Program) (w : World) (K : PySem.W.Frag) (mg : Str → Option Value) (base : Heap) (CX : CXT) (k : Nat) (f : Addr) (fd : FuncData) (ps : List Str) (sp : Sp) : Prop where
  len : ∀ vs H Q E, sp vs H Q E → vs.length = ps.length
  go : ∀ (A : Around) (o : List Env) (s : Shared) (H : Hp) (ar : Args) (us : List Value) (vs : List V) (Q : VK) (E : XK), A.guards = some [] → Room k A → Env0 P w K mg base A o s H → BindsTo s fd ar (ps.zip us) →
    Vals vs us → sp vs H Q E → codeAny (model P w) A (.call (.ref f) ar) (CR CX o P w H s Q E) s
section
variable {P : Program} {w : World} {K : PySem.W.Frag} {mg : Str → Option Value} {base : Heap} {CX : CXT} {k : Nat} {f : Addr} {fd : FuncData} {ps : List Str} {sp : Sp}
theorem FnG.of (F : FnOk P w K mg base CX k f fd ps sp) : FnG P w K mg base CX k f fd ps sp :=
  ⟨F.len, fun A o s H ar us vs Q E _ r e b v h => F.run A o s H ar us vs Q E r e b v h⟩
theorem FnG.mono {j : Nat} (F : FnG P w K mg base CX j f fd ps sp) (h : j ≤ k) : FnG P w K mg base CX k f fd ps sp :=
  ⟨F.len, fun A o s H ar us vs Q E g r => F.go A o s H ar us vs Q E g (r.mono h)⟩
theorem FnG.imp {sp' : Sp} (F : FnG P w K mg base CX k f fd ps sp) (h : ∀ vs H Q E, sp' vs H Q E → sp vs H Q E) : FnG P w K mg base CX k f fd ps sp' :=
  ⟨fun vs H Q E q => F.len vs H Q E (h _ _ _ _ q), fun A o s H ar us vs Q E g r e b v q => F.go A o s H ar us vs Q E g r e b v (h _ _ _ _ q)⟩
/-- the promise of a def, by its body -/
theorem fnG_of {name qual : Str} {params : Arguments} {body : List Stmt} {scope : Scope} {dV kV doc pm cdv ct oc : Value} {an od : Option Addr} {osl : Array (Option Value)} {N : List Str}
    (lk : K.lookup f = some ⟨oc, od, .func (PySem.W.fnOf name qual params body scope dV kV doc pm an cdv ct), osl⟩) (hcd : PySem.W.codeIn K cdv qual = true) (S : FnScope N ps scope) (len : ∀ vs H Q E, sp vs H Q E → vs.length = ps.length)
    (hb : ∀ (A : Around) (o : List Env) (s : Shared) (H : Hp) (vs : List V) (Q : VK) (E : XK), A.guards = some [] → Room k (A.deeper (PyProof.Rows.envOfC qual scope s.heap.objs.size f cdv)) → sp vs H Q E →
      ∃ t, PSs (cxOf CX P w K mg base N qual scope f cdv A o s H E) body t ∧ t { nx := fun _ H1 => Q .non H1, rt := Q } (L2.start N vs) H) :
    FnG P w K mg base CX (k + 1) f (PySem.W.fnOf name qual params body scope dV kV doc pm an cdv ct) ps sp := by
  constructor
  · exact len
  · intro A o s H ar us vs Q E g room e0 bind rel hs
    have hlen : vs.length = ps.length := len _ _ _ _ hs
    have keep : ∀ b ob, base.get? b = some ob → s.heap.get? b = some ob := fun b ob e => (e0.bs b ob e).1
    have inK : K.In s.heap := e0.mod.kin.keeps keep
    have kinds : ∀ y ∈ ps.zip us, scope.names.lookup y.1 = some .local ∨ (scope.names.lookup y.1 = some .cell ∧ ((cellsFrom (s.heap.objs.size + 1) scope.names []).lookup y.1).isSome = true) := by
      rintro ⟨n, u⟩ hy
      rcases S.par n (List.of_mem_zip hy).1 with z | z
      · exact Or.inl z
      · exact Or.inr ⟨z, PySem.W.cellsFrom_some _ _ _ (Or.inl z)⟩
    refine codeAny_call_function room.depth (inK _ _ lk) rfl S.co S.gen rfl (PySem.W.codeRec_of inK hcd) (bind _ _ _ _ ?_)
    refine wpAny_newFunctionEnv_cells S.kind kinds ?_
    rintro env rfl s1 x
    obtain ⟨t, dt, ht⟩ := hb A o s H vs Q E g (room.deeper _) hs
    refine ⟨(e0.mod.nolimit.keeps keep).keeps x.toInCall.keep, codeAny_func ?_⟩
    refine wpAny_mono (dt.run [] s1 (L2.start N vs) H _ (inv_start S room.hd e0 hlen rel x) ht) ?_ (fun _ _ z => z)
    intro fl s' z
    cases fl with
    | ret u =>
      obtain ⟨v, _, H1, J, r, q⟩ := z
      exact ⟨v, H1, J.os, J.bare, J.base, J.hok, r, q⟩
    | next =>
      obtain ⟨_, H1, J, q⟩ := z
      exact ⟨V.non, H1, J.os, J.bare, J.base, J.hok, rfl, q⟩
    | brk => exact z.choose_spec.choose_spec.2.elim
    | cont => exact z.choose_spec.choose_spec.2.elim
end
/-- a def of the text under its name -/
structure Dfn (K : PySem.W.Frag) (mg : Str → Option Value) (x : Str) (st : Stmt) (f : Addr) (fd : FuncData) : Prop where
  fn : Fun K x x st f fd
  mgf : mg x = some (.ref f)
/-- a def that may be called by its name -/
structure Cal (P : Program) (w : World) (K : PySem.W.Frag) (mg : Str → Option Value) (base : Heap) (CX : CXT) (k : Nat) (x : Str) (sp : Sp) : Prop where
  ex : ∃ (f : Addr) (fd : FuncData) (ps : List Str), FnG P w K mg base CX k f fd ps sp ∧ mg x = some (.ref f) ∧ PySem.W.keepIn K (.ref f) = true ∧ Binds K fd ps []
section
variable {P : Program} {w : World} {K : PySem.W.Frag} {mg : Str → Option Value} {base : Heap}
theorem cal_of {x : Str} {st : Stmt} {f : Addr} {fd : FuncData} {N ps : List Str} {k : Nat} {sp : Sp} (F : Dfn K mg x st f fd) (S : FnScope N ps (defScope st))
    (hbd : ∀ (kV doc pm : Value) (an : Option Addr) (cdv ct : Value) (us : List Value), us.length = ps.length → bindArgs (PySem.W.fnOf x x (defArgs st) (defBody st) (defScope st) .none kV doc pm an cdv ct) ⟨us, []⟩ = pure (ps.zip us))
    (len : ∀ vs H Q E, sp vs H Q E → vs.length = ps.length)
    (hb : ∀ (cdv : Value) (A : Around) (o : List Env) (s : Shared) (H : Hp) (vs : List V) (Q : VK) (E : XK), A.guards = some [] → Room k (A.deeper (PyProof.Rows.envOfC x (defScope st) s.heap.objs.size f cdv)) → sp vs H Q E →
      ∃ t, PSs (cxOf CX0 P w K mg base N x (defScope st) f cdv A o s H E).nox (defBody st) t ∧ t { nx := fun _ H1 => Q .non H1, rt := Q } (L2.start N vs) H) : Cal P w K mg base CX0 (k + 1) x sp := by
  obtain ⟨oc, od, kV, doc, pm, an, cdv, ct, osl, rfl, lk, hcd⟩ := F.fn.ex
  refine ⟨f, _, ps, fnG_of lk hcd S len ?_, F.mgf, F.fn.kp, Binds.all (hbd kV doc pm an cdv ct)⟩
  intro A o s H vs Q E g r h
  obtain ⟨t, d, q⟩ := hb cdv A o s H vs Q E g r h
  exact ⟨t, d.nox, q⟩
theorem Cal.imp {CX : CXT} {k : Nat} {x : Str} {sp sp' : Sp} (c : Cal P w K mg base CX k x sp) (h : ∀ vs H Q E, sp' vs H Q E → sp vs H Q E) : Cal P w K mg base CX k x sp' := by
  obtain ⟨f, fd, ps, F, a⟩ := c.ex
  exact ⟨f, fd, ps, F.imp h, a⟩
end
section
variable {X : Cx} {CX : CXT} {k j : Nat} {x : Str} {sp : Sp} {p pos : Pos} {e : Expr} {es : List Expr} {t : TA} {E : XK}
theorem run_G {pins : List (Addr × Obj)} {σ : L2.St} {H : Hp} {s : Shared} {Q : VK} {us : List Value} {vs : List V} {f : Addr} {fd : FuncData} {ps : List Str} (F : FnG X.prog X.w X.K X.mg X.base CX k f fd ps sp) (g : X.A.guards = some []) (hr : Room k X.A)
    (hb : Binds X.K fd ps []) (hx : Passes CX X E) (I : Inv X pins σ H s) (r : Vals vs us) (h : sp vs H Q E) : wpAny (model X.prog X.w) X.A (call (.ref f) us) (EP X pins σ Q) X.xe s := by
  have hl : (us ++ []).length = ps.length := by
    rw [List.append_nil, ← r.length]
    exact F.len _ _ _ _ h
  have b := hb s us I.kIn hl
  rw [List.append_nil] at b
  refine wpAny_call (codeAny_mono (F.go X.A X.stack s H ⟨us, []⟩ us vs Q E g hr I.env0 b r h) ?_)
  intro z s' q
  match z, q with
  | .error e, q => exact hx pins σ H s e s' I q
  | .ok (.ret u), q => exact I.after q
  | .ok .next, q => exact q.elim
  | .ok .brk, q => exact q.elim
  | .ok .cont, q => exact q.elim
/-- f(e, ..) -/
theorem pe_g (c : Cal X.prog X.w X.K X.mg X.base CX k x sp) (g : X.A.guards = some []) (hr : Room j X.A) (hk : k ≤ j) (hgl : Gl X x) (hx : Passes CX X E) (ha : PA X (e :: es) t)
    (hdb : (x == ("__debug__" : Str)) = false := by decide) (he : starEach (e :: es) X.env = (false, eval e X.env) :: starEach es X.env := by rfl) (hpl : (backTo pos (starEach es X.env)).any (·.1) = false := by rfl) :
    PE X (.Call (.Name x p) (e :: es) [] pos) (tCall sp [] E t) := by
  obtain ⟨f, fd, ps, F, hm, kp, b⟩ := c.ex
  constructor
  intro pins s σ H Q I h
  refine wpAny_Call_Name_kw (ld_glob I hgl hm ?_ hdb)
  refine PySem.W.callWith_K (h₀ := X.base) I.ok.mod.kin kp ?_ he hpl
  refine thn (ha.run pos pins s σ H _ I h) ?_
  rintro us s1 ⟨vs, H1, I1, r, q⟩
  rw [List.append_nil] at q
  exact ⟨I1.kIn, run_G F g (hr.mono hk) b hx I1 r q⟩
theorem pe_g0 (c : Cal X.prog X.w X.K X.mg X.base CX k x sp) (g : X.A.guards = some []) (hr : Room j X.A) (hk : k ≤ j) (hgl : Gl X x) (hx : Passes CX X E) (hdb : (x == ("__debug__" : Str)) = false := by decide) :
    PE X (.Call (.Name x p) [] [] pos) (tCall sp [] E tNil) := by
  obtain ⟨f, fd, ps, F, hm, kp, b⟩ := c.ex
  constructor
  intro pins s σ H Q I h
  refine wpAny_Call_Name_kw (ld_glob I hgl hm ?_ hdb)
  exact PySem.W.callWith_K0 I.kIn kp (run_G (us := []) F g (hr.mono hk) b hx I .nil h)
end
end G
set_option Elab.async false
set_option linter.all false
set_option maxRecDepth 100000
set_option maxHeartbeats 4000000
namespace G
open PySem PySem.Spec L2
/-! ### data that can be shown, compared -/
mutual
/-- ints below 2 ^ 600, signs of texts below 0x110000, no dicts -/
def fine : PyData → Bool
  | .none => true
  | .bool _ => true
  | .int i => decide (i.natAbs < 2 ^ 600)
  | .str x => PyData.strOk x
  | .list xs => fineAll xs
  | .tuple xs => fineAll xs
  | .dict _ => false
def fineAll : List PyData → Bool
  | [] => true
  | x :: xs => fine x && fineAll xs
end
mutual
/-- a bound of the shown text -/
def wt : PyData → Nat
  | .none => 5
  | .bool _ => 5
  | .int _ => 610
  | .str x => 10 * x.length + 2
  | .list xs => 3 + wtAll xs
  | .tuple xs => 4 + wtAll xs
  | .dict _ => 0
def wtAll : List PyData → Nat
  | [] => 0
  | x :: xs => wt x + 2 + wtAll xs
end
mutual
theorem fine_can : ∀ d : PyData, fine d = true → d.canLay0 = true
  | .none, _ => by simp only [PyData.canLay0]
  | .bool _, _ => by simp only [PyData.canLay0]
  | .int _, _ => by simp only [PyData.canLay0]
  | .str x, h => by
    simp only [fine] at h
    simp only [PyData.canLay0]
    exact h
  | .list xs, h => by
    simp only [fine] at h
    simp only [PyData.canLay0]
    exact fine_cans xs h
  | .tuple xs, h => by
    simp only [fine] at h
    simp only [PyData.canLay0]
    exact fine_cans xs h
  | .dict _, h => by
    simp only [fine] at h
    cases h
theorem fine_cans : ∀ ds : List PyData, fineAll ds = true → PyData.canLayAll0 ds = true
  | [], _ => by simp only [PyData.canLayAll0]
  | d :: ds, h => by
    simp only [fineAll, Bool.and_eq_true] at h
    simp only [PyData.canLayAll0, Bool.and_eq_true]
    exact ⟨fine_can d h.1, fine_cans ds h.2⟩
end
theorem int_len (i : Int) : (Str.ofString (toString i)).length = (toString i).length := by
  exact PySem.ofString_length _
theorem log_of {n : Nat} (h : n < 2 ^ 600) : n.log2 < 600 := PySem.Flt.log2_lt_of (by decide) h
mutual
theorem fine_show : ∀ d : PyData, fine d = true → d.showable = true
  | .none, _ => by simp only [PyData.showable]
  | .bool _, _ => by simp only [PyData.showable]
  | .int i, h => by
    simp only [fine, decide_eq_true_eq] at h
    simp only [PyData.showable, decide_eq_true_eq]
    have := log_of h
    omega
  | .str x, h => by simp only [PyData.showable]
  | .list xs, h => by
    simp only [fine] at h
    simp only [PyData.showable]
    exact fine_shows xs h
  | .tuple xs, h => by
    simp only [fine] at h
    simp only [PyData.showable]
    exact fine_shows xs h
  | .dict _, h => by
    simp only [fine] at h
    cases h
theorem fine_shows : ∀ ds : List PyData, fineAll ds = true → PyData.showableAll ds = true
  | [], _ => by simp only [PyData.showableAll]
  | d :: ds, h => by
    simp only [fineAll, Bool.and_eq_true] at h
    simp only [PyData.showableAll, Bool.and_eq_true]
    exact ⟨fine_show d h.1, fine_shows ds h.2⟩
end
theorem listText_le (ts : List Str) : (listText ts).length ≤ 3 + piled ts := by
  unfold listText
  rw [strLen_append]
  have e : (("]" : String) : Str).length = 1 := rfl
  have e2 : (("[" : String) : Str).length = 1 := rfl
  rw [e]
  cases ts with
  | nil =>
    show (("[" : String) : Str).length + 1 ≤ _
    omega
  | cons t r =>
    have h : (textFrom 0 ("[" : String) (t :: r)).length = (textFrom 1 ((("[" : String) : Str) ++ (if (0 : Nat) > 0 then ", " else "" : String) ++ t) r).length := rfl
    rw [h, textFrom_length_pos r 1 _ (Nat.succ_pos 0), strLen_append, strLen_append, piled_cons]
    have e3 : (((if (0 : Nat) > 0 then ", " else "" : String) : Str)).length = 0 := rfl
    omega
theorem tupleText_le (ts : List Str) : (tupleText ts).length ≤ 4 + piled ts := by
  unfold tupleText
  rw [strLen_append, strLen_append]
  have e1 : ((("(" : String) : Str)).length = 1 := rfl
  have e3 : (((if ts.length == 1 then ",)" else ")" : String) : Str)).length ≤ 2 := by split <;> decide
  by_cases h : ts = []
  · subst h
    have : (Str.join ", " ([] : List Str)).length = 0 := rfl
    omega
  · have := join_length_add ts h
    omega
mutual
theorem shown_le : ∀ d : PyData, fine d = true → d.shown.length ≤ wt d
  | .none, _ => by
    simp only [PyData.shown, wt]
    decide
  | .bool b, _ => by
    simp only [PyData.shown, wt]
    cases b <;> decide
  | .int i, h => by
    simp only [fine, decide_eq_true_eq] at h
    simp only [PyData.shown, wt]
    have := int_text_length_le (a := i) (k := 600) (by decide) (log_of h)
    rw [int_len]
    omega
  | .str x, h => by
    simp only [fine] at h
    simp only [PyData.shown, wt]
    refine StrLaws.reprText_len x fun c hc => ?_
    unfold PyData.strOk at h
    have := Array.all_eq_true_iff_forall_mem.mp h c (by simpa using hc)
    have h2 : c < 0x110000 := of_decide_eq_true this
    omega
  | .list xs, h => by
    simp only [fine] at h
    simp only [PyData.shown, wt]
    have h1 := listText_le (PyData.shownAll xs)
    have h2 := shown_les xs h
    omega
  | .tuple xs, h => by
    simp only [fine] at h
    simp only [PyData.shown, wt]
    have h1 := tupleText_le (PyData.shownAll xs)
    have h2 := shown_les xs h
    omega
  | .dict _, h => by
    simp only [fine] at h
    cases h
theorem shown_les : ∀ ds : List PyData, fineAll ds = true → piled (PyData.shownAll ds) ≤ wtAll ds
  | [], _ => by
    simp only [PyData.shownAll, wtAll]
    decide
  | d :: ds, h => by
    simp only [fineAll, Bool.and_eq_true] at h
    simp only [PyData.shownAll, wtAll]
    rw [piled_cons]
    have h1 := shown_le d h.1
    have h2 := shown_les ds h.2
    omega
end
/-- data as the laws have them -/
structure Fine (d : PyData) : Prop where
  ok : fine d = true
  dp : d.depth ≤ 40
  wt : wt d ≤ 1000000
theorem Fine.shaped {d : PyData} (h : Fine d) : SeqAt.shaped d = true := by
  show (d.canLay0 && decide (d.depth ≤ 64)) = true
  have := h.dp
  rw [fine_can d h.ok, Bool.true_and]
  exact decide_eq_true (by omega)
/-- repr(x), x data of any depth -/
def rRepr (K : PySem.W.Frag) : List V → Hp → VK → Prop := fun xs H Q => ∃ x d, xs = [x] ∧ Dp K H x d ∧ Fine d ∧ Q (.str d.shown) H
theorem call_reprU {X : Cx} {k : Nat} (g : X.A.guards = some []) (hu : X.A.units + 16 * k + 200 < cLine) : CallR X (.builtin "repr") (rRepr X.K) := by
  intro pins s σ H xs us Q I r h
  obtain ⟨x, d, rfl, hd, hf, q⟩ := h
  obtain ⟨u, rfl, ru⟩ := vals1 r
  have hz : d.shown.length ≤ sizeLine := Nat.le_trans (shown_le d hf.ok) (Nat.le_trans hf.wt (by decide))
  have hs := fine_show d hf.ok
  obtain ⟨as, rd⟩ := Dp.reads I d x u hd ru
  cases hd with
  | non =>
    cases ru
    exact PySem.P.repr_of_none ⟨.str _, H, I.tok _, ⟨_, by simp only [PyData.shown]; rfl⟩, q⟩
  | bl b =>
    cases ru
    exact PySem.P.repr_of_bool ⟨.str _, H, I.tok _, ⟨_, by simp only [PyData.shown]; rfl⟩, q⟩
  | int i =>
    obtain ⟨t, rfl⟩ := ru
    simp only [PyData.showable, decide_eq_true_eq] at hs
    exact PySem.P.repr_of_int hs ⟨.str _, H, I.tok _, ⟨_, by simp only [PyData.shown]; rfl⟩, q⟩
  | str z =>
    obtain ⟨t, rfl⟩ := ru
    simp only [PyData.shown] at hz
    exact PySem.P.repr_of_str ⟨.str _, H, I.tok _, ⟨_, by simp only [PyData.shown]; rfl⟩, q⟩ hz
  | lst hs' ha =>
    cases ru
    refine repr_of_reads' rd hs (PyData.noDict_hsm (PyData.hasDict_of_canLay _ (fine_can _ hf.ok))) g ?_ (fun _ _ e => e) ?_ hz
    · have := hu
      have := hf.dp
      omega
    · intro h' u tk hk
      exact ⟨.str _, H, I.kept hk, ⟨_, rfl⟩, q⟩
  | tup hs' ha =>
    cases ru
    refine repr_of_reads' rd hs (PyData.noDict_hsm (PyData.hasDict_of_canLay _ (fine_can _ hf.ok))) g ?_ (fun _ _ e => e) ?_ hz
    · have := hu
      have := hf.dp
      omega
    · intro h' u tk hk
      exact ⟨.str _, H, I.kept hk, ⟨_, rfl⟩, q⟩
theorem call_reprD {X : Cx} {k : Nat} (g : X.A.guards = some []) (hr : Room k X.A) : CallR X (.builtin "repr") (rRepr X.K) := call_reprU g hr.un
end G
set_option Elab.async false
set_option linter.all false
set_option maxRecDepth 100000
set_option maxHeartbeats 4000000
namespace G
open PySem PySem.Spec L2
/-! ### iterators of a known number of items, that stand still while Ok holds -/
structure ItN (J : It) (n : Nat) (it : Nat → V) (Ok : Hp → Prop) : Prop where
  go : ∀ i H, i < n → Ok H → J.go i H
  stop : ∀ H, Ok H → J.stop n H
  yld : ∀ i H x H', i < n → Ok H → J.yld i H x H' → H' = H ∧ x = it i
theorem getD_of {xs : List V} {i : Nat} {x : V} (h : xs[i]? = some x) : x = xs.getD i .non := by
  rw [List.getD_eq_getElem?_getD, h]
  rfl
theorem itn_list {K : PySem.W.Frag} {a : Addr} {xs : List V} : ItN (Itl K a) xs.length (fun i => xs.getD i .non) (fun H => SqL K H a xs) where
  go := fun i H hi ok => ⟨xs, xs[i], ok, List.getElem?_eq_getElem hi⟩
  stop := fun H ok => ⟨xs, ok, Nat.le_refl _⟩
  yld := fun i H x H' hi ok y => ⟨y.1, getD_of (y.2 xs ok)⟩
theorem itn_tup {K : PySem.W.Frag} {a : Addr} {xs : List V} : ItN (Itt K a) xs.length (fun i => xs.getD i .non) (fun H => SqT K H a xs) where
  go := fun i H hi ok => ⟨xs, xs[i], ok, List.getElem?_eq_getElem hi⟩
  stop := fun H ok => ⟨xs, ok, Nat.le_refl _⟩
  yld := fun i H x H' hi ok y => ⟨y.1, getD_of (y.2 xs ok)⟩
theorem itn_rng {lo : Int} {n : Nat} : ItN (Itr lo n) n (fun i => .int (lo + i)) (fun _ => True) where
  go := fun i H hi _ => hi
  stop := fun H _ => Nat.le_refl _
  yld := fun i H x H' hi _ y => y
theorem itn_str {x : Str} : ItN (Its x) x.cps.size (fun i => .str ⟨#[x.cps.getD i 0]⟩) (fun _ => True) where
  go := fun i H hi _ => hi
  stop := fun H _ => Nat.le_refl _
  yld := fun i H v H' hi _ y => by
    obtain ⟨e, c, hc, rfl⟩ := y
    refine ⟨e, ?_⟩
    have : x.cps.getD i 0 = c := by
      rw [Array.getD_eq_getD_getElem?, hc]
      rfl
    rw [this]
/-! ### for -/
theorem c_for {wi : TI} {g : TG} {tb : TS} {D : Ends} {σ : L2.St} {H : Hp} (k : wi σ H fun J H1 => ∃ W : Nat → Nat → L2.St → Hp → Prop, (∃ m, W 0 m σ H1) ∧ ∀ i m σ H, W i m σ H →
    (J.stop i H ∧ D.nx σ H) ∨ (J.go i H ∧ ∃ N : L2.St → Hp → Prop, (∀ σ' H', N σ' H' → ∃ m', m' < m ∧ W (i + 1) m' σ' H') ∧ ∀ x H', J.yld i H x H' → g x σ H' fun σ2 H2 => tb { D with nx := N, ct := N, bk := D.nx } σ2 H2)) : tFor wi g tb D σ H := k
theorem c_iList {K : PySem.W.Frag} {te : TE} {σ : L2.St} {H : Hp} {R : It → Hp → Prop} (k : te σ H fun x H1 => ∃ a, x = .ref a ∧ (∃ xs, SqL K H1 a xs) ∧ R (Itl K a) H1) : iList K te σ H R := k
theorem c_iTup {K : PySem.W.Frag} {te : TE} {σ : L2.St} {H : Hp} {R : It → Hp → Prop} (k : te σ H fun x H1 => ∃ a, x = .ref a ∧ (∃ xs, SqT K H1 a xs) ∧ R (Itt K a) H1) : iTup K te σ H R := k
theorem c_iStr {te : TE} {σ : L2.St} {H : Hp} {R : It → Hp → Prop} (k : te σ H fun v H1 => ∃ x, v = .str x ∧ R (Its x) H1) : iStr te σ H R := k
theorem c_iRng1 {ta : TA} {σ : L2.St} {H : Hp} {R : It → Hp → Prop} (k : ta σ H fun vs H1 => ∃ j : Int, vs = [.int j] ∧ -(2 ^ 62) ≤ j ∧ j < 2 ^ 62 ∧ R (Itr 0 j.toNat) H1) : iRng1 ta σ H R := k
theorem for_it {J : It} {n : Nat} {it : Nat → V} {Ok : Hp → Prop} {g : TG} {tb : TS} {D : Ends} {σ : L2.St} {H : Hp} (hJ : ItN J n it Ok) (Pv : Nat → L2.St → Hp → Prop) (h0 : Pv 0 σ H) (ok : ∀ i σ H, Pv i σ H → Ok H)
    (hs : ∀ i σ H, i < n → Pv i σ H → g (it i) σ H fun σ2 H2 => tb { D with nx := Pv (i + 1), ct := Pv (i + 1), bk := D.nx } σ2 H2) (hd : ∀ σ H, Pv n σ H → D.nx σ H) :
    ∃ W : Nat → Nat → L2.St → Hp → Prop, (∃ m, W 0 m σ H) ∧ ∀ i m σ H, W i m σ H →
      (J.stop i H ∧ D.nx σ H) ∨ (J.go i H ∧ ∃ N : L2.St → Hp → Prop, (∀ σ' H', N σ' H' → ∃ m', m' < m ∧ W (i + 1) m' σ' H') ∧ ∀ x H', J.yld i H x H' → g x σ H' fun σ2 H2 => tb { D with nx := N, ct := N, bk := D.nx } σ2 H2) := by
  refine ⟨fun i m σ H => i + m = n ∧ Pv i σ H, ⟨n, Nat.zero_add n, h0⟩, ?_⟩
  rintro i m σ H ⟨e, p⟩
  have o := ok i σ H p
  cases m with
  | zero =>
    obtain rfl : i = n := by omega
    exact .inl ⟨hJ.stop H o, hd σ H p⟩
  | succ m =>
    have hi : i < n := by omega
    refine .inr ⟨hJ.go i H hi o, Pv (i + 1), fun σ' H' p' => ⟨m, by omega, by omega, p'⟩, fun x H' y => ?_⟩
    obtain ⟨rfl, rfl⟩ := hJ.yld i H x H' hi o y
    exact hs i σ _ hi p
/-! ### comprehensions -/
theorem c_lc {wi : TI} {g : TG} {tt : TT} {te : TE} {vs : List Nat} {σ : L2.St} {H : Hp} {Q : VK} (k : wi σ H fun J H1 => ∀ D, H1 D = none → ∃ W : Nat → Nat → Hp → Prop, (∃ m, W 0 m (upd H1 D (.lst []))) ∧ ∀ i m H, W i m H →
    (J.stop i H ∧ Q (.ref D) H) ∨ (J.go i H ∧ ∃ Nx : Hp → Prop, (∀ H', Nx H' → ∃ m', m' < m ∧ W (i + 1) m' H') ∧ ∀ x H', J.yld i H x H' → g x (wipe σ vs) H' fun σ2 H2 => wipe σ2 vs = wipe σ vs ∧ tt σ2 H2 fun b H3 =>
      if b = true then te σ2 H3 fun y H4 => ∃ acc, H4 D = some (.lst acc) ∧ acc.length < sizeLine ∧ Nx (upd H4 D (.lst (acc ++ [y]))) else Nx H3)) : tLc wi g tt te vs σ H Q := k
/-- the rule: Pv by the turn, the list so far and the heap -/
def LcN (D : Addr) (Pv : Nat → List V → Hp → Prop) (i : Nat) (H' : Hp) : Prop := ∃ acc, Pv i acc H'
theorem lcn_add {D : Addr} {Pv : Nat → List V → Hp → Prop} {i : Nat} {H4 : Hp} {acc : List V} {y : V} (h : H4 D = some (.lst acc)) (hl : acc.length < 1000000) (p : Pv (i + 1) (acc ++ [y]) (upd H4 D (.lst (acc ++ [y])))) :
    ∃ acc, H4 D = some (.lst acc) ∧ acc.length < sizeLine ∧ LcN D Pv (i + 1) (upd H4 D (.lst (acc ++ [y]))) := ⟨acc, h, Nat.lt_of_lt_of_le hl (by decide), _, p⟩
theorem lc_it {J : It} {n : Nat} {it : Nat → V} {Ok : Hp → Prop} {g : TG} {tt : TT} {te : TE} {vs : List Nat} {σ : L2.St} {H1 : Hp} {D : Addr} {Qd : Addr → Hp → Prop} (hJ : ItN J n it Ok) (Pv : Nat → List V → Hp → Prop) (h0 : Pv 0 [] (upd H1 D (.lst [])))
    (ok : ∀ i acc H, Pv i acc H → Ok H)
    (hs : ∀ i acc H, i < n → Pv i acc H → g (it i) (wipe σ vs) H fun σ2 H2 => wipe σ2 vs = wipe σ vs ∧ tt σ2 H2 fun b H3 =>
      if b = true then te σ2 H3 fun y H4 => ∃ acc, H4 D = some (.lst acc) ∧ acc.length < sizeLine ∧ LcN D Pv (i + 1) (upd H4 D (.lst (acc ++ [y]))) else LcN D Pv (i + 1) H3)
    (hd : ∀ acc H, Pv n acc H → Qd D H) :
    ∃ W : Nat → Nat → Hp → Prop, (∃ m, W 0 m (upd H1 D (.lst []))) ∧ ∀ i m H, W i m H →
      (J.stop i H ∧ Qd D H) ∨ (J.go i H ∧ ∃ Nx : Hp → Prop, (∀ H', Nx H' → ∃ m', m' < m ∧ W (i + 1) m' H') ∧ ∀ x H', J.yld i H x H' → g x (wipe σ vs) H' fun σ2 H2 => wipe σ2 vs = wipe σ vs ∧ tt σ2 H2 fun b H3 =>
        if b = true then te σ2 H3 fun y H4 => ∃ acc, H4 D = some (.lst acc) ∧ acc.length < sizeLine ∧ Nx (upd H4 D (.lst (acc ++ [y]))) else Nx H3) := by
  refine ⟨fun i m H => i + m = n ∧ ∃ acc, Pv i acc H, ⟨n, Nat.zero_add n, [], h0⟩, ?_⟩
  rintro i m H ⟨e, acc, p⟩
  have o := ok i acc H p
  cases m with
  | zero =>
    obtain rfl : i = n := by omega
    exact .inl ⟨hJ.stop H o, hd acc H p⟩
  | succ m =>
    have hi : i < n := by omega
    refine .inr ⟨hJ.go i H hi o, LcN D Pv (i + 1), fun H' p' => ⟨m, by omega, by omega, p'⟩, fun x H' y => ?_⟩
    obtain ⟨rfl, rfl⟩ := hJ.yld i H x H' hi o y
    exact hs i acc _ hi p
/-- the same, a name as target, no tests -/
theorem lc_itN {J : It} {n : Nat} {it : Nat → V} {Ok : Hp → Prop} {te : TE} {vs : List Nat} {j : Nat} {σ : L2.St} {H1 : Hp} {Qd : Addr → Hp → Prop} (hJ : ItN J n it Ok) (Pv : Addr → Nat → List V → Hp → Prop) (h0 : ∀ D, H1 D = none → Pv D 0 [] (upd H1 D (.lst [])))
    (ok : ∀ D i acc H, Pv D i acc H → Ok H)
    (hs : ∀ D i acc H, H1 D = none → i < n → Pv D i acc H → te ((wipe σ vs).set j (some (it i))) H fun y H4 => ∃ acc, H4 D = some (.lst acc) ∧ acc.length < sizeLine ∧ LcN D (Pv D) (i + 1) (upd H4 D (.lst (acc ++ [y]))))
    (hd : ∀ D acc H, H1 D = none → Pv D n acc H → Qd D H) (hw : ∀ x, wipe ((wipe σ vs).set j (some x)) vs = wipe σ vs := by exact fun _ => rfl) :
    ∀ D, H1 D = none → ∃ W : Nat → Nat → Hp → Prop, (∃ m, W 0 m (upd H1 D (.lst []))) ∧ ∀ i m H, W i m H →
      (J.stop i H ∧ Qd D H) ∨ (J.go i H ∧ ∃ Nx : Hp → Prop, (∀ H', Nx H' → ∃ m', m' < m ∧ W (i + 1) m' H') ∧ ∀ x H', J.yld i H x H' → gName j x (wipe σ vs) H' fun σ2 H2 => wipe σ2 vs = wipe σ vs ∧ tYes σ2 H2 fun b H3 =>
        if b = true then te σ2 H3 fun y H4 => ∃ acc, H4 D = some (.lst acc) ∧ acc.length < sizeLine ∧ Nx (upd H4 D (.lst (acc ++ [y]))) else Nx H3) := fun D hD =>
  lc_it (Qd := Qd) (g := gName j) (tt := tYes) (te := te) hJ (Pv D) (h0 D hD) (ok D) (fun i acc H hi p => ⟨hw _, hs D i acc H hD hi p⟩) (fun acc H p => hd D acc H hD p)
/-- a name as target, no tests, elements by a function of the turn; nothing is changed -/
theorem lc_map {J : It} {n : Nat} {it : Nat → V} {Ok : Hp → Prop} {te : TE} {vs : List Nat} {j : Nat} {σ : L2.St} {H1 : Hp} {Qd : Addr → Hp → Prop} (hJ : ItN J n it Ok) (f : Nat → V) (hn : n ≤ 1000000) (ok : ∀ H', Same H1 H' → Ok H')
    (he : ∀ i H', i < n → Same H1 H' → ∀ R : VK, (∀ H2, Same H' H2 → R (f i) H2) → te ((wipe σ vs).set j (some (it i))) H' R)
    (k : ∀ D H', H1 D = none → Same H1 H' → H' D = some (.lst ((List.range n).map f)) → Qd D H') (hw : ∀ x, wipe ((wipe σ vs).set j (some x)) vs = wipe σ vs := by exact fun _ => rfl) :
    ∀ D, H1 D = none → ∃ W : Nat → Nat → Hp → Prop, (∃ m, W 0 m (upd H1 D (.lst []))) ∧ ∀ i m H, W i m H →
      (J.stop i H ∧ Qd D H) ∨ (J.go i H ∧ ∃ Nx : Hp → Prop, (∀ H', Nx H' → ∃ m', m' < m ∧ W (i + 1) m' H') ∧ ∀ x H', J.yld i H x H' → gName j x (wipe σ vs) H' fun σ2 H2 => wipe σ2 vs = wipe σ vs ∧ tYes σ2 H2 fun b H3 =>
        if b = true then te σ2 H3 fun y H4 => ∃ acc, H4 D = some (.lst acc) ∧ acc.length < sizeLine ∧ Nx (upd H4 D (.lst (acc ++ [y]))) else Nx H3) := by
  intro D hD
  refine ⟨fun i m H => i + m = n ∧ Same H1 H ∧ H D = some (.lst ((List.range i).map f)), ⟨n, Nat.zero_add n, same_new hD, upd_same⟩, ?_⟩
  rintro i m H ⟨e, sm, ha⟩
  have o := ok H sm
  cases m with
  | zero =>
    obtain rfl : i = n := by omega
    exact .inl ⟨hJ.stop H o, k D H hD sm ha⟩
  | succ m =>
    have hi : i < n := by omega
    refine .inr ⟨hJ.go i H hi o, fun H' => Same H1 H' ∧ H' D = some (.lst ((List.range (i + 1)).map f)), fun H' p' => ⟨m, by omega, by omega, p'⟩, fun x H' y => ?_⟩
    obtain ⟨rfl, rfl⟩ := hJ.yld i H x H' hi o y
    refine ⟨hw _, ?_⟩
    show te _ _ _
    refine he i _ hi sm _ fun H2 s2 => ⟨_, s2 D _ ha, ?_, same_mut (sm.trans s2) hD, ?_⟩
    · rw [List.length_map, List.length_range]
      exact Nat.lt_of_lt_of_le (show i < 1000000 by omega) (by decide)
    · rw [upd_same, List.range_succ, List.map_append]
      rfl
/-- with a test -/
theorem lc_filter {J : It} {n : Nat} {it : Nat → V} {Ok : Hp → Prop} {tt : TT} {te : TE} {vs : List Nat} {j : Nat} {σ : L2.St} {H1 : Hp} {Qd : Addr → Hp → Prop} (hJ : ItN J n it Ok) (b : Nat → Bool) (f : Nat → V) (hn : n ≤ 1000000) (ok : ∀ H', Same H1 H' → Ok H')
    (ht : ∀ i H', i < n → Same H1 H' → ∀ R : Bool → Hp → Prop, (∀ H2, Same H' H2 → R (b i) H2) → tt ((wipe σ vs).set j (some (it i))) H' R)
    (he : ∀ i H', i < n → b i = true → Same H1 H' → ∀ R : VK, (∀ H2, Same H' H2 → R (f i) H2) → te ((wipe σ vs).set j (some (it i))) H' R)
    (k : ∀ D H', H1 D = none → Same H1 H' → H' D = some (.lst (((List.range n).filter b).map f)) → Qd D H') (hw : ∀ x, wipe ((wipe σ vs).set j (some x)) vs = wipe σ vs := by exact fun _ => rfl) :
    ∀ D, H1 D = none → ∃ W : Nat → Nat → Hp → Prop, (∃ m, W 0 m (upd H1 D (.lst []))) ∧ ∀ i m H, W i m H →
      (J.stop i H ∧ Qd D H) ∨ (J.go i H ∧ ∃ Nx : Hp → Prop, (∀ H', Nx H' → ∃ m', m' < m ∧ W (i + 1) m' H') ∧ ∀ x H', J.yld i H x H' → gName j x (wipe σ vs) H' fun σ2 H2 => wipe σ2 vs = wipe σ vs ∧ tt σ2 H2 fun b H3 =>
        if b = true then te σ2 H3 fun y H4 => ∃ acc, H4 D = some (.lst acc) ∧ acc.length < sizeLine ∧ Nx (upd H4 D (.lst (acc ++ [y]))) else Nx H3) := by
  intro D hD
  refine ⟨fun i m H => i + m = n ∧ Same H1 H ∧ H D = some (.lst (((List.range i).filter b).map f)), ⟨n, Nat.zero_add n, same_new hD, upd_same⟩, ?_⟩
  rintro i m H ⟨e, sm, ha⟩
  have o := ok H sm
  cases m with
  | zero =>
    obtain rfl : i = n := by omega
    exact .inl ⟨hJ.stop H o, k D H hD sm ha⟩
  | succ m =>
    have hi : i < n := by omega
    refine .inr ⟨hJ.go i H hi o, fun H' => Same H1 H' ∧ H' D = some (.lst (((List.range (i + 1)).filter b).map f)), fun H' p' => ⟨m, by omega, by omega, p'⟩, fun x H' y => ?_⟩
    obtain ⟨rfl, rfl⟩ := hJ.yld i H x H' hi o y
    refine ⟨hw _, ht i _ hi sm _ fun H2 s2 => ?_⟩
    cases hb : b i with
    | true =>
      show te _ _ _
      refine he i _ hi hb (sm.trans s2) _ fun H3 s3 => ⟨_, s3 D _ (s2 D _ ha), ?_, same_mut ((sm.trans s2).trans s3) hD, ?_⟩
      · rw [List.length_map]
        have := List.length_filter_le b (List.range i)
        rw [List.length_range] at this
        exact Nat.lt_of_le_of_lt (show _ ≤ 1000000 by omega) (by decide)
      · rw [upd_same, List.range_succ, List.filter_append, List.map_append]
        simp [hb]
    | false =>
      refine ⟨sm.trans s2, ?_⟩
      rw [s2 D _ ha, List.range_succ, List.filter_append]
      simp [hb]
/-- what a filtered list is, over the items -/
theorem range_filter_map (xs : List V) (b : V → Bool) : ((List.range xs.length).filter fun i => b (xs.getD i .non)).map (fun i => xs.getD i .non) = xs.filter b := by
  induction xs with
  | nil => rfl
  | cons x r ih =>
    rw [List.length_cons, List.range_succ_eq_map, List.filter_cons]
    have e : ((List.map Nat.succ (List.range r.length)).filter fun i => b ((x :: r).getD i .non)).map (fun i => (x :: r).getD i .non) = r.filter b := by
      rw [List.filter_map, List.map_map]
      exact ih
    show List.map _ (if b x = true then 0 :: _ else _) = _
    by_cases h : b x = true
    · rw [if_pos h, List.filter_cons, if_pos h, List.map_cons, e]
      rfl
    · rw [if_neg h, List.filter_cons, if_neg h, e]
theorem range_map (xs : List V) (f : V → V) : (List.range xs.length).map (fun i => f (xs.getD i .non)) = xs.map f := by
  induction xs with
  | nil => rfl
  | cons x r ih =>
    rw [List.length_cons, List.range_succ_eq_map, List.map_cons, List.map_map, List.map_cons]
    exact congrArg (f x :: ·) ih
theorem c_allR {K : PySem.W.Frag} {H : Hp} {Q : VK} {a : Addr} {n : Nat} {g : Nat → Bool} (h : H a = some (.lst ((List.range n).map fun i => V.bl (g i)))) (k : Q (.bl (((List.range n).map g).all id)) H) : rAll K [.ref a] H Q :=
  ⟨a, _, rfl, sl_of (by rw [h, List.map_map]; rfl), k⟩
theorem c_anyR {K : PySem.W.Frag} {H : Hp} {Q : VK} {a : Addr} {n : Nat} {g : Nat → Bool} (h : H a = some (.lst ((List.range n).map fun i => V.bl (g i)))) (k : Q (.bl (((List.range n).map g).any id)) H) : rAny K [.ref a] H Q :=
  ⟨a, _, rfl, sl_of (by rw [h, List.map_map]; rfl), k⟩
theorem c_sumR {K : PySem.W.Frag} {H : Hp} {Q : VK} {a : Addr} {n : Nat} {g : Nat → Int} (h : H a = some (.lst ((List.range n).map fun i => V.int (g i)))) (k : Q (.int ((List.range n).map g).sum) H) : rSum K [.ref a] H Q :=
  ⟨a, _, rfl, sl_of (by rw [h, List.map_map]; rfl), k⟩
theorem c_sum {K : PySem.W.Frag} {H : Hp} {Q : VK} {a : Addr} {ns : List Int} (h : SqL K H a (ns.map V.int)) (k : Q (.int ns.sum) H) : rSum K [.ref a] H Q := ⟨a, _, rfl, h, k⟩
end G
set_option Elab.async false
set_option linter.all false
set_option maxRecDepth 100000
set_option maxHeartbeats 4000000
namespace G
open PySem PySem.Spec L2
/-! ### data: kinds -/
def tyN : PyData → String
  | .none => "NoneType"
  | .bool _ => "bool"
  | .int _ => "int"
  | .str _ => "str"
  | .list _ => "list"
  | .tuple _ => "tuple"
  | .dict _ => "dict"
theorem sql_ty {K : PySem.W.Frag} {H : Hp} {a : Addr} {xs : List V} (h : SqL K H a xs) : TyX K H (.ref a) (.type "list") := by
  rcases h with (h | ⟨o, h⟩) | ⟨o, its, n, e, c, _⟩
  · exact .base (.lst h)
  · exact .base (.frz h)
  · exact .kList e c
theorem sqt_ty {K : PySem.W.Frag} {H : Hp} {a : Addr} {xs : List V} (h : SqT K H a xs) : TyX K H (.ref a) (.type "tuple") := by
  rcases h with (h | ⟨o, h⟩) | ⟨o, its, n, e, c, _⟩
  · exact .base (.tup h)
  · exact .fTuple h
  · exact .kTuple e c
theorem dp_ty {K : PySem.W.Frag} {H : Hp} {v : V} {d : PyData} (h : Dp K H v d) : TyX K H v (.type (tyN d)) := by
  cases h with
  | non => exact .base .non
  | bl b => exact .base (.bl b)
  | int i => exact .base (.int i)
  | str x => exact .base (.str x)
  | lst hs _ => exact sql_ty hs
  | tup hs _ => exact sqt_ty hs
def isS : PyData → Bool
  | .str _ => true
  | _ => false
def isI : PyData → Bool
  | .int _ => true
  | .bool _ => true
  | _ => false
def isB : PyData → Bool
  | .bool _ => true
  | _ => false
def isT : PyData → Bool
  | .tuple _ => true
  | _ => false
def isL : PyData → Bool
  | .list _ => true
  | _ => false
section
variable {K : PySem.W.Frag} {H : Hp} {Q : VK} {v : V} {d : PyData}
theorem kit_S : ∀ d : PyData, PySem.W.kitOne K (.type (tyN d)) (.type "str") = some (isS d)
  | .none => kit_ty (show kitB "NoneType" "str" = some false by decide +kernel)
  | .bool _ => kit_ty (show kitB "bool" "str" = some false by decide +kernel)
  | .int _ => kit_ty (show kitB "int" "str" = some false by decide +kernel)
  | .str _ => kit_ty (show kitB "str" "str" = some true by decide +kernel)
  | .list _ => kit_ty (show kitB "list" "str" = some false by decide +kernel)
  | .tuple _ => kit_ty (show kitB "tuple" "str" = some false by decide +kernel)
  | .dict _ => kit_ty (show kitB "dict" "str" = some false by decide +kernel)
theorem kit_I : ∀ d : PyData, PySem.W.kitOne K (.type (tyN d)) (.type "int") = some (isI d)
  | .none => kit_ty (show kitB "NoneType" "int" = some false by decide +kernel)
  | .bool _ => kit_ty (show kitB "bool" "int" = some true by decide +kernel)
  | .int _ => kit_ty (show kitB "int" "int" = some true by decide +kernel)
  | .str _ => kit_ty (show kitB "str" "int" = some false by decide +kernel)
  | .list _ => kit_ty (show kitB "list" "int" = some false by decide +kernel)
  | .tuple _ => kit_ty (show kitB "tuple" "int" = some false by decide +kernel)
  | .dict _ => kit_ty (show kitB "dict" "int" = some false by decide +kernel)
theorem kit_B : ∀ d : PyData, PySem.W.kitOne K (.type (tyN d)) (.type "bool") = some (isB d)
  | .none => kit_ty (show kitB "NoneType" "bool" = some false by decide +kernel)
  | .bool _ => kit_ty (show kitB "bool" "bool" = some true by decide +kernel)
  | .int _ => kit_ty (show kitB "int" "bool" = some false by decide +kernel)
  | .str _ => kit_ty (show kitB "str" "bool" = some false by decide +kernel)
  | .list _ => kit_ty (show kitB "list" "bool" = some false by decide +kernel)
  | .tuple _ => kit_ty (show kitB "tuple" "bool" = some false by decide +kernel)
  | .dict _ => kit_ty (show kitB "dict" "bool" = some false by decide +kernel)
theorem kit_T : ∀ d : PyData, PySem.W.kitOne K (.type (tyN d)) (.type "tuple") = some (isT d)
  | .none => kit_ty (show kitB "NoneType" "tuple" = some false by decide +kernel)
  | .bool _ => kit_ty (show kitB "bool" "tuple" = some false by decide +kernel)
  | .int _ => kit_ty (show kitB "int" "tuple" = some false by decide +kernel)
  | .str _ => kit_ty (show kitB "str" "tuple" = some false by decide +kernel)
  | .list _ => kit_ty (show kitB "list" "tuple" = some false by decide +kernel)
  | .tuple _ => kit_ty (show kitB "tuple" "tuple" = some true by decide +kernel)
  | .dict _ => kit_ty (show kitB "dict" "tuple" = some false by decide +kernel)
theorem kit_L : ∀ d : PyData, PySem.W.kitOne K (.type (tyN d)) (.type "list") = some (isL d)
  | .none => kit_ty (show kitB "NoneType" "list" = some false by decide +kernel)
  | .bool _ => kit_ty (show kitB "bool" "list" = some false by decide +kernel)
  | .int _ => kit_ty (show kitB "int" "list" = some false by decide +kernel)
  | .str _ => kit_ty (show kitB "str" "list" = some false by decide +kernel)
  | .list _ => kit_ty (show kitB "list" "list" = some true by decide +kernel)
  | .tuple _ => kit_ty (show kitB "tuple" "list" = some false by decide +kernel)
  | .dict _ => kit_ty (show kitB "dict" "list" = some false by decide +kernel)
theorem c_isiS (h : Dp K H v d) (k : Q (.bl (isS d)) H) : rIsi K [v, .ty "str"] H Q := ⟨v, .ty "str", _, _, _, rfl, .ty "str", dp_ty h, kit_S d, k⟩
theorem c_isiI (h : Dp K H v d) (k : Q (.bl (isI d)) H) : rIsi K [v, .ty "int"] H Q := ⟨v, .ty "int", _, _, _, rfl, .ty "int", dp_ty h, kit_I d, k⟩
theorem c_isiB (h : Dp K H v d) (k : Q (.bl (isB d)) H) : rIsi K [v, .ty "bool"] H Q := ⟨v, .ty "bool", _, _, _, rfl, .ty "bool", dp_ty h, kit_B d, k⟩
theorem c_isiT (h : Dp K H v d) (k : Q (.bl (isT d)) H) : rIsi K [v, .ty "tuple"] H Q := ⟨v, .ty "tuple", _, _, _, rfl, .ty "tuple", dp_ty h, kit_T d, k⟩
theorem c_isiL (h : Dp K H v d) (k : Q (.bl (isL d)) H) : rIsi K [v, .ty "list"] H Q := ⟨v, .ty "list", _, _, _, rfl, .ty "list", dp_ty h, kit_L d, k⟩
theorem c_isiLT {p : Addr} (h : Dp K H v d) (ht : H p = some (.tup [.ty "list", .ty "tuple"])) (k : Q (.bl (isL d || isT d)) H) : rIsiT K [v, .ref p] H Q := by
  refine ⟨v, p, _, _, [.type "list", .type "tuple"], isL d || isT d, rfl, ht, .cons (.ty "list") (.cons (.ty "tuple") .nil), dp_ty h, ?_, k⟩
  refine kitAny_cons (kit_L d) (fun e => ?_) (fun e => by rw [e]; rfl)
  rw [e, Bool.false_or]
  exact kitAny_cons (kit_T d) (fun e => by rw [e]; exact kitAny_nil) (fun e => e)
end
/-! ### the parts of data -/
theorem dpall_len {K : PySem.W.Frag} {H : Hp} : ∀ {vs : List V} {ds : List PyData}, DpAll K H vs ds → vs.length = ds.length
  | _, _, .nil => rfl
  | _, _, .cons _ h => congrArg (· + 1) (dpall_len h)
theorem dpall_get {K : PySem.W.Frag} {H : Hp} : ∀ {vs : List V} {ds : List PyData} {i : Nat} {v : V}, DpAll K H vs ds → vs[i]? = some v → ∃ d, ds[i]? = some d ∧ Dp K H v d
  | _, _, 0, _, .cons h _, e => by
    cases e
    exact ⟨_, rfl, h⟩
  | _, _, i + 1, v, .cons _ h, e => dpall_get (i := i) h e
  | _, _, _, _, .nil, e => by cases e
theorem dpall_at {K : PySem.W.Frag} {H : Hp} : ∀ {vs : List V} {ds : List PyData} {i : Nat} {d : PyData}, DpAll K H vs ds → ds[i]? = some d → ∃ v, vs[i]? = some v ∧ Dp K H v d
  | _, _, 0, _, .cons h _, e => by
    cases e
    exact ⟨_, rfl, h⟩
  | _, _, i + 1, v, .cons _ h, e => dpall_at (i := i) h e
  | _, _, _, _, .nil, e => by cases e
theorem dpall_app {K : PySem.W.Frag} {H : Hp} : ∀ {vs ws : List V} {ds es : List PyData}, DpAll K H vs ds → DpAll K H ws es → DpAll K H (vs ++ ws) (ds ++ es)
  | _, _, _, _, .nil, h => h
  | _, _, _, _, .cons a t, h => .cons a (dpall_app t h)
theorem dpall_set {K : PySem.W.Frag} {H : Hp} {v : V} {d : PyData} (hv : Dp K H v d) : ∀ {vs : List V} {ds : List PyData} (i : Nat), DpAll K H vs ds → DpAll K H (vs.set i v) (ds.set i d)
  | _, _, _, .nil => .nil
  | _, _, 0, .cons _ t => .cons hv t
  | _, _, i + 1, .cons a t => .cons a (dpall_set hv i t)
theorem dpall_erase {K : PySem.W.Frag} {H : Hp} : ∀ {vs : List V} {ds : List PyData} (i : Nat), DpAll K H vs ds → DpAll K H (vs.eraseIdx i) (ds.eraseIdx i)
  | _, _, _, .nil => .nil
  | _, _, 0, .cons _ t => t
  | _, _, i + 1, .cons a t => .cons a (dpall_erase i t)
/-! ### names -/
def nmS (x : Str) : Bool := (decide (1 ≤ x.length) && decide (x.length ≤ 8)) && x.cps.toList.all (fun c => decide (97 ≤ c) && decide (c ≤ 122))
def isNm : PyData → Bool
  | .str x => nmS x
  | _ => false
def isInt : PyData → Bool
  | .int _ => true
  | _ => false
theorem isI_int (d : PyData) : (isI d && !isB d) = isInt d := by cases d <;> rfl
theorem lt1 (c d : Nat) : decide ([c] < [d]) = decide (c < d) := by
  by_cases h : c < d
  · rw [decide_eq_true h]
    exact decide_eq_true (List.Lex.rel h)
  · rw [decide_eq_false h]
    refine decide_eq_false fun z => ?_
    cases z with
    | rel z => exact h z
    | cons z => cases z
theorem le_a (c : Nat) : (!decide ([c] < ("a" : Str).cps.toList)) = decide (97 ≤ c) := by
  have e : ("a" : Str).cps.toList = [97] := by decide +kernel
  rw [e, lt1]
  by_cases h : c < 97
  · rw [decide_eq_true h, decide_eq_false (by omega)]
    rfl
  · rw [decide_eq_false h, decide_eq_true (by omega)]
    rfl
theorem le_z (c : Nat) : (!decide (("z" : Str).cps.toList < [c])) = decide (c ≤ 122) := by
  have e : ("z" : Str).cps.toList = [122] := by decide +kernel
  rw [e, lt1]
  by_cases h : 122 < c
  · rw [decide_eq_true h, decide_eq_false (by omega)]
    rfl
  · rw [decide_eq_false h, decide_eq_true (by omega)]
    rfl
theorem in_abc (c : Nat) : decide (c ∈ ("abcdefghijklmnopqrstuvwxyz" : Str).cps.toList) = (decide (97 ≤ c) && decide (c ≤ 122)) := by
  have e : ("abcdefghijklmnopqrstuvwxyz" : Str).cps.toList = (List.range 26).map (· + 97) := by decide +kernel
  rw [e]
  by_cases h : 97 ≤ c ∧ c ≤ 122
  · rw [decide_eq_true (p := 97 ≤ c) h.1, decide_eq_true (p := c ≤ 122) h.2]
    refine decide_eq_true (List.mem_map.mpr ⟨c - 97, List.mem_range.mpr (by omega), by omega⟩)
  · have : (decide (97 ≤ c) && decide (c ≤ 122)) = false := by
      rw [← Bool.decide_and]
      exact decide_eq_false h
    rw [this]
    refine decide_eq_false fun z => ?_
    obtain ⟨i, hi, rfl⟩ := List.mem_map.mp z
    have := List.mem_range.mp hi
    exact h ⟨by omega, by omega⟩
theorem all_range_str (x : Str) (p : Nat → Bool) : ((List.range x.cps.size).map fun i => p (x.cps.getD i 0)).all id = x.cps.toList.all p := by
  have h : ∀ l : List Nat, (List.range l.length).map (fun i => p (l.getD i 0)) = l.map p := by
    intro l
    induction l with
    | nil => rfl
    | cons a r ih =>
      rw [List.length_cons, List.range_succ_eq_map, List.map_cons, List.map_map, List.map_cons]
      exact congrArg (p a :: ·) ih
  have h2 := h x.cps.toList
  rw [Array.length_toList] at h2
  have e : (fun i => p (x.cps.getD i 0)) = fun i => p (x.cps.toList.getD i 0) := by
    funext i
    rw [Array.getD_eq_getD_getElem?, List.getD_eq_getElem?_getD, Array.getElem?_toList]
  rw [e, h2, List.all_map]
  rfl
/-! ### the promise of a predicate over data -/
def spB (K : PySem.W.Frag) (f : PyData → Bool) : Sp := fun vs H Q _ => ∃ v d, vs = [v] ∧ Dp K H v d ∧ Fine d ∧ ∀ H', Same H H' → Q (.bl (f d)) H'
theorem c_spB {K : PySem.W.Frag} {f : PyData → Bool} {H : Hp} {Q : VK} {E : XK} {v : V} {d : PyData} (h : Dp K H v d) (hf : Fine d) (k : ∀ H', Same H H' → Q (.bl (f d)) H') : spB K f [v] H Q E := ⟨v, d, rfl, h, hf, k⟩
theorem fine_scal {d : PyData} (h : fine d = true) (hd : d.depth = 0) (hw : wt d ≤ 1000000) : Fine d := ⟨h, by omega, hw⟩
theorem fineAll_mem {d : PyData} : ∀ {ds : List PyData}, fineAll ds = true → d ∈ ds → fine d = true
  | x :: xs, h, hm => by
    simp only [fineAll, Bool.and_eq_true] at h
    rcases List.mem_cons.mp hm with rfl | hm
    · exact h.1
    · exact fineAll_mem h.2 hm
theorem wtAll_mem {d : PyData} : ∀ {ds : List PyData}, d ∈ ds → G.wt d ≤ wtAll ds
  | x :: xs, hm => by
    simp only [wtAll]
    rcases List.mem_cons.mp hm with rfl | hm
    · omega
    · have := wtAll_mem hm
      omega
theorem depthAll_mem {d : PyData} : ∀ {ds : List PyData}, d ∈ ds → d.depth ≤ PyData.depthAll ds
  | x :: xs, hm => by
    simp only [PyData.depthAll]
    rcases List.mem_cons.mp hm with rfl | hm
    · omega
    · have := depthAll_mem hm
      omega
theorem fine_mem {d : PyData} {ds : List PyData} (h : Fine (.tuple ds)) (hm : d ∈ ds) : Fine d := by
  obtain ⟨h1, h2, h3⟩ := h
  simp only [fine] at h1
  simp only [G.wt] at h3
  simp only [PyData.depth] at h2
  have := wtAll_mem hm
  have := depthAll_mem hm
  exact ⟨fineAll_mem h1 hm, by omega, by omega⟩
theorem fine_memL {d : PyData} {ds : List PyData} (h : Fine (.list ds)) (hm : d ∈ ds) : Fine d := by
  obtain ⟨h1, h2, h3⟩ := h
  simp only [fine] at h1
  simp only [G.wt] at h3
  simp only [PyData.depth] at h2
  have := wtAll_mem hm
  have := depthAll_mem hm
  exact ⟨fineAll_mem h1 hm, by omega, by omega⟩
theorem fine_lt {ds : List PyData} : Fine (.list ds) → Fine (.tuple ds) → True := fun _ _ => trivial
theorem dp3 {K : PySem.W.Frag} {H : Hp} {xs : List V} {ds : List PyData} (h : DpAll K H xs ds) (hl : xs.length = 3) : ∃ a b c d e f, xs = [a, b, c] ∧ ds = [d, e, f] ∧ Dp K H a d ∧ Dp K H b e ∧ Dp K H c f := by
  match xs, ds, h, hl with
  | [a, b, c], _, .cons h1 (.cons h2 (.cons h3 .nil)), _ => exact ⟨a, b, c, _, _, _, rfl, rfl, h1, h2, h3⟩
/-! ### bounds -/
def isBd : PyData → Bool
  | .tuple [a, b, c] => isInt c && (isNm a && (isNm b && !PyData.eqv a b))
  | _ => false
theorem isBd_len {ds : List PyData} (h : ds.length ≠ 3) : isBd (.tuple ds) = false := by
  match ds, h with
  | [], _ => rfl
  | [_], _ => rfl
  | [_, _], _ => rfl
  | [_, _, _], h => exact absurd rfl h
  | _ :: _ :: _ :: _ :: _, _ => rfl
end G
set_option Elab.async false
set_option linter.all false
set_option maxRecDepth 100000
set_option maxHeartbeats 4000000
namespace G
open PySem PySem.Spec L2
open AutoSeq1 (wpAny_loadPart')
/-! ### enumerate(tuple) -/
theorem meets_enumT (t : Addr) (items : Array Value) (n : Nat) (dct : Option Addr) (sl : Array (Option Value)) :
    Meets (Builtin.«enumerate.__new__» ⟨[.type "enumerate", .ref t], []⟩) (fun _ R s => s.heap.get? t = some { cls := .type "tuple", dict := dct, data := .seq items n, slots := sl } ∧
      R (.ok (.ret (.ref (s.heap.push { cls := .type "tuple_iterator", data := .fields #[.ref t, .int 0 0] }).objs.size)))
        { s with heap := (s.heap.push { cls := .type "tuple_iterator", data := .fields #[.ref t, .int 0 0] }).push { cls := .type "enumerate", data := .fields #[.none, .bool false, .ref s.heap.objs.size, rawInt 0, .none, .none] } }) :=
  .of_wp fun prog w A R s h => by
    obtain ⟨hp, g, d, tk, os⟩ := s
    obtain ⟨ht, h⟩ := h
    have hsub := sub_enumerate
    have hT : Heap.IsTuple (Shared.heap ⟨hp, g, d, tk, os⟩) t items := ⟨_, ht, rfl, n, rfl⟩
    wp_walk using wpAny_loadPart' ht
    refine wpAny_stack_any fun st => wpAny_pure ?_
    split
    · rename_i c _ _ _ _ _
      cases (c == Value.type "enumerate") <;>
        (wp_walk using wpAny_loadPart' ht, wpAny_pyIter_tuple hT
         exact ⟨_, rfl, h⟩)
    · wp_walk using wpAny_loadPart' ht, wpAny_pyIter_tuple hT
      exact ⟨_, rfl, h⟩
theorem call_enumT {prog : Program} {w : World} {A : Around} {E : Value → Shared → Prop} {s : Shared} {t : Addr} {items : Array Value} {Q : Value → Shared → Prop} (hT : s.heap.IsTuple t items)
    (h : ∀ h', IsEnum h' (s.heap.objs.size + 1) s.heap.objs.size 0 .none → h'.IsTupleIter s.heap.objs.size t 0 → (∀ b o, s.heap.get? b = some o → h'.get? b = some o) → Q (.ref (s.heap.objs.size + 1)) { s with heap := h' }) :
    wpAny (model prog w) A (call (.type "enumerate") [.ref t]) Q E s := by
  obtain ⟨⟨c, dct, dt, sl⟩, ht, hc, n, hd⟩ := hT
  replace hc : c = .type "tuple" := hc
  replace hd : dt = .seq items n := hd
  subst hc hd
  refine callType_new F.called_enumerate (by decide) (F.typeCall_enumerate_1 _) (F.newCall_enumerate_1 _) (fun obj => F.args_object_init_2 obj _) F.entry_enumerate_new (meets_enumT t items n dct sl) ⟨ht, ?_⟩
  have hz : (s.heap.push { cls := .type "tuple_iterator", data := .fields #[.ref t, .int 0 0] }).objs.size = s.heap.objs.size + 1 := Heap.size_push ..
  have he : IsEnum ((s.heap.push { cls := .type "tuple_iterator", data := .fields #[.ref t, .int 0 0] }).push
      { cls := .type "enumerate", data := .fields #[.none, .bool false, .ref s.heap.objs.size, rawInt 0, .none, .none] }) (s.heap.objs.size + 1) s.heap.objs.size 0 .none := by
    have z := Heap.get?_push_size (s.heap.push { cls := .type "tuple_iterator", data := .fields #[.ref t, .int 0 0] }) (o := { cls := .type "enumerate", data := .fields #[.none, .bool false, .ref s.heap.objs.size, rawInt 0, .none, .none] }) rfl
    rw [hz] at z
    exact z
  show _ ∧ _
  rw [hz]
  refine ⟨⟨_, he, rfl⟩, h _ he ⟨_, Heap.get?_push_of_some _ (Heap.get?_push_size _ rfl), rfl, rfl⟩ fun b o x => Heap.get?_push_of_some _ (Heap.get?_push_of_some _ x)⟩
/-- the tuple at a, each item in a new pair -/
def IteT (K : PySem.W.Frag) (a : Addr) : It :=
  ⟨fun i H => ∃ (xs : List V) (x : V), SqT K H a xs ∧ xs[i]? = some x, fun i H v H' => ∃ T x, v = .ref T ∧ H T = none ∧ H' = upd H T (.tup [.int (i : Nat), x]) ∧ ∀ xs, SqT K H a xs → xs[i]? = some x, fun i H => ∃ xs : List V, SqT K H a xs ∧ xs.length = i⟩
theorem turn_enumT {P : Program} {w : World} {K : PySem.W.Frag} {elts : List Expr} {kk : Nat} {tpos : Pos} (a e it : Addr) :
    Turn P w K (.Tuple elts kk tpos) (IteT K a) [e, it] e (fun i h => (∃ old, IsEnum h e it ((i : Nat) : Int) old) ∧ h.IsTupleIter it a i ∧ e ≠ it) where
  mem := by simp
  obj := fun i h st b hb => by
    obtain ⟨⟨old, he⟩, ⟨ob, ho, hc, hd⟩, _⟩ := st
    have z : b = e ∨ b = it := by simpa using hb
    rcases z with rfl | rfl
    · exact ⟨_, he, fun v q => nomatch q⟩
    · refine ⟨ob, ho, fun v q => ?_⟩
      rw [hd] at q
      cases q
  keep := fun i h h' st k => by
    obtain ⟨⟨old, he⟩, ⟨ob, ho, hc, hd⟩, ne⟩ := st
    exact ⟨⟨old, k e (by simp) _ he⟩, ⟨ob, k it (by simp) _ ho, hc, hd⟩, ne⟩
  item := by
    intro X hP hw hK hc i pins s σ H E I hf st hgo
    subst hP hw hK
    obtain ⟨⟨old, he⟩, hit, hne⟩ := st
    obtain ⟨xs, x, hq, hx⟩ := hgo
    obtain ⟨its, rv, p, hz⟩ := I.tuple hq
    obtain ⟨u, hu, ru⟩ := rv.get hx
    have hel : e < s.heap.objs.size := Heap.lt_size he
    have hil : it < s.heap.objs.size := by obtain ⟨_, q, _⟩ := hit; exact Heap.lt_size q
    have hai : a ≠ it := by
      rintro rfl
      obtain ⟨o1, q1, c1, _⟩ := p
      obtain ⟨o2, q2, c2, _⟩ := hit
      rw [q1] at q2
      cases q2
      rw [c1] at c2
      injection c2 with c3
      exact absurd c3 (by decide)
    have hea : e ≠ a := by
      rintro rfl
      obtain ⟨o1, q1, c1, _⟩ := p
      have he' : s.heap.get? e = some _ := he
      rw [q1] at he'
      cases he'
      injection c1 with c3
      exact absurd c3 (by decide)
    have D := Draws.tuple (prog := X.prog) (w := X.w) (A := X.A.in1) (I.ok.hd hc) it a hai its.toArray
    have hli : i < its.toArray.size := by
      have := (List.getElem?_eq_some_iff.mp hu).1
      simpa using this
    refine wpAny_pyNext_enum_itemD D he ⟨hit, p⟩ hli hne (by simp [hne, hea]) fun x' h' tk hx' ho hst' hT hsz hk => ?_
    have exu : x' = u := by
      have q1 : its.toArray[i]? = some u := by simpa using hu
      rw [q1] at hx'
      exact (Option.some.inj hx').symm
    subst exu
    refine ⟨_, rfl, wpAny_letOwnedTupleGo_enum (s := { s with heap := h', toks := tk + 1 }) ho fun h'' he' sb => ?_⟩
    have hT2 : h''.get? s.heap.objs.size = some { cls := .type "tuple", data := .seq #[.int i tk, x'] } := (sb.2 _ (Nat.ne_of_gt hel)).trans hT
    have new : ObjOk X.prog X.w (upd H s.heap.objs.size (.tup [.int (i : Nat), x])) h'' s.heap.objs.size (.tup [.int (i : Nat), x]) :=
      ⟨Nat.le_trans (show 2 ≤ 100 by decide) (by decide), [.int i tk, x'], .cons ⟨_, rfl⟩ (.cons ru .nil), ⟨_, hT2, rfl, _, rfl⟩⟩
    have I1 : Inv X pins σ (upd H s.heap.objs.size (.tup [.int (i : Nat), x])) { s with heap := h'', toks := tk + 1 } := by
      refine I.turnedNew (ch := [e, it]) (fun b ob hb q => ?_) hf (Nat.le_refl _) new
      have n1 : b ≠ e := fun z => hb (by simp [z])
      have n2 : b ≠ it := fun z => hb (by simp [z])
      exact (sb.2 b n1).trans (hk b ob n1 n2 q)
    refine ⟨.ref s.heap.objs.size, _, I1, rfl, ⟨_, x, rfl, I.hok.fresh (Nat.le_refl _), rfl, fun ys hy => ?_⟩, ⟨⟨x', ?_⟩, ?_, hne⟩, fun b hb => ?_⟩
    · rw [I.tuple_inj hy hq]
      exact hx
    · have e1 : ((i + 1 : Nat) : Int) = (i : Int) + 1 := by omega
      rw [e1]
      exact he'
    · obtain ⟨ob, q, r⟩ := hst'.1
      exact ⟨ob, (sb.2 it (Ne.symm hne)).trans q, r⟩
    · have hb' : b < s.heap.objs.size := by
        have z : b = e ∨ b = it := by simpa using hb
        rcases z with rfl | rfl
        · exact hel
        · exact hil
      rw [upd_ne (Nat.ne_of_lt hb')]
      exact (hf b hb).1
  done := by
    intro X hP hw hK hc i pins s σ H E I hf st hgo
    subst hP hw hK
    obtain ⟨⟨old, he⟩, hit, hne⟩ := st
    obtain ⟨xs, hq, hx⟩ := hgo
    obtain ⟨its, rv, p, hz⟩ := I.tuple hq
    obtain ⟨f0, f1, f2, f3, f4, f5⟩ := hf it (by simp)
    have hai : a ≠ it := by
      rintro rfl
      obtain ⟨o1, q1, c1, _⟩ := p
      obtain ⟨o2, q2, c2, _⟩ := hit
      rw [q1] at q2
      cases q2
      rw [c1] at c2
      injection c2 with c3
      exact absurd c3 (by decide)
    have hl := rv.length
    have D := Draws.tuple (prog := X.prog) (w := X.w) (A := X.A.in1) (I.ok.hd hc) it a hai its.toArray
    refine wpAny_pyNext_enum_endD D he ⟨?_, p⟩ fun h' eb => ⟨rfl, I.turned (t' := s.toks) (fun b o hb q => eb b o hb q) f0 f1 f3 f4 f5⟩
    have : its.toArray.size = i := by
      rw [List.size_toArray]
      omega
    rw [this]
    exact hit
  self := fun A i s Q E st h => by
    obtain ⟨⟨_, he⟩, _⟩ := st
    exact wpAny_pyIter_enum he h
def iEnumT (K : PySem.W.Frag) (ta : TA) : TI := fun σ H R => ta σ H fun vs H1 => ∃ a xs, vs = [.ref a] ∧ SqT K H1 a xs ∧ R (IteT K a) H1
theorem pi_enumT {X : Cx} {e : Expr} {ta : TA} {p pos tpos : Pos} {elts : List Expr} {kk : Nat} (hg : Gl X "enumerate") (hm : X.mg "enumerate" = none) (ha : PA X [e] ta) (hs : starEach [e] X.env = [(false, eval e X.env)] := by rfl) :
    PI X (.Tuple elts kk tpos) (.Call (.Name "enumerate" p) [e] [] pos) (iEnumT X.K ta) := by
  constructor
  intro pins s σ H R I h
  refine PyProof.Rows.Call_ (ld_blt I hg hm PyProof.Rows.boot_enumerate (PyProof.Rows.callWith_type1 (thn (ha.run pos pins s σ H _ I h) fun us s1 z => ?_) hs rfl))
  obtain ⟨vs, H1, I1, r1, a, xs, rfl, hq, q⟩ := z
  obtain ⟨u, rfl, ru⟩ := vals1 r1
  cases ru
  obtain ⟨its, rv, p', hz⟩ := I1.tuple hq
  refine call_enumT p' fun h' he hit hk => wpAny_pyIter_enum he ?_
  have I2 : Inv X pins σ H1 { s1 with heap := h' } := I1.kept (t' := s1.toks) hk
  refine ⟨s1.heap.objs.size + 1, [s1.heap.objs.size + 1, s1.heap.objs.size], _, _, H1, rfl, I2, turn_enumT a (s1.heap.objs.size + 1) s1.heap.objs.size, ⟨⟨.none, he⟩, hit, Nat.succ_ne_self _⟩, fun b hb => ?_, q⟩
  have hle : s1.heap.objs.size ≤ b := by
    have z : b = s1.heap.objs.size + 1 ∨ b = s1.heap.objs.size := by simpa using hb
    rcases z with rfl | rfl
    · exact Nat.le_add_right _ _
    · exact Nat.le_refl _
  exact I1.fpOk hle (I1.hok.fresh hle)
end G
set_option Elab.async false
set_option linter.all false
set_option maxRecDepth 100000
set_option maxHeartbeats 4000000
namespace G
open PySem PySem.Spec L2
theorem c_iEnum {K : PySem.W.Frag} {ta : TA} {σ : L2.St} {H : Hp} {R : It → Hp → Prop} (k : ta σ H fun vs H1 => ∃ a xs, vs = [.ref a] ∧ SqL K H1 a xs ∧ R (Ite K a) H1) : iEnum K ta σ H R := k
theorem c_iEnumT {K : PySem.W.Frag} {ta : TA} {σ : L2.St} {H : Hp} {R : It → Hp → Prop} (k : ta σ H fun vs H1 => ∃ a xs, vs = [.ref a] ∧ SqT K H1 a xs ∧ R (IteT K a) H1) : iEnumT K ta σ H R := k
/-- for i, x in enumerate(xs) -/
theorem for_enumL {K : PySem.W.Frag} {a : Addr} {xs : List V} {p q : Nat} {tb : TS} {D : Ends} {σ : L2.St} {H : Hp} (Pv : Nat → L2.St → Hp → Prop) (h0 : Pv 0 σ H) (ok : ∀ i σ H, Pv i σ H → SqL K H a xs)
    (hs : ∀ (i : Nat) (x : V) (σ : L2.St) (H H1 : Hp), xs[i]? = some x → Pv i σ H → Same H H1 → tb { D with nx := Pv (i + 1), ct := Pv (i + 1), bk := D.nx } ((σ.set p (some (.int (i : Int)))).set q (some x)) H1) (hd : ∀ σ H, Pv xs.length σ H → D.nx σ H) :
    ∃ W : Nat → Nat → L2.St → Hp → Prop, (∃ m, W 0 m σ H) ∧ ∀ i m σ H, W i m σ H →
      ((Ite K a).stop i H ∧ D.nx σ H) ∨ ((Ite K a).go i H ∧ ∃ N : L2.St → Hp → Prop, (∀ σ' H', N σ' H' → ∃ m', m' < m ∧ W (i + 1) m' σ' H') ∧ ∀ x H', (Ite K a).yld i H x H' → gTup K 2 (gCons (gName p) (gCons (gName q) gNil)) x σ H' fun σ2 H2 => tb { D with nx := N, ct := N, bk := D.nx } σ2 H2) := by
  refine ⟨fun i m σ H => i + m = xs.length ∧ Pv i σ H, ⟨xs.length, Nat.zero_add _, h0⟩, ?_⟩
  rintro i m σ H ⟨e, pv⟩
  have o := ok i σ H pv
  cases m with
  | zero =>
    obtain rfl : i = xs.length := by omega
    exact .inl ⟨⟨xs, o, Nat.le_refl _⟩, hd σ H pv⟩
  | succ m =>
    have hi : i < xs.length := by omega
    refine .inr ⟨⟨xs, xs[i], o, List.getElem?_eq_getElem hi⟩, Pv (i + 1), fun σ' H' p' => ⟨m, by omega, by omega, p'⟩, fun v H' y => ?_⟩
    obtain ⟨T, x, rfl, hT, rfl, hx⟩ := y
    exact ⟨T, _, rfl, st_of upd_same, rfl, _, _, rfl, _, _, rfl, rfl, hs i x σ H _ (hx xs o) pv (same_new hT)⟩
theorem for_enumT {K : PySem.W.Frag} {a : Addr} {xs : List V} {p q : Nat} {tb : TS} {D : Ends} {σ : L2.St} {H : Hp} (Pv : Nat → L2.St → Hp → Prop) (h0 : Pv 0 σ H) (ok : ∀ i σ H, Pv i σ H → SqT K H a xs)
    (hs : ∀ (i : Nat) (x : V) (σ : L2.St) (H H1 : Hp), xs[i]? = some x → Pv i σ H → Same H H1 → tb { D with nx := Pv (i + 1), ct := Pv (i + 1), bk := D.nx } ((σ.set p (some (.int (i : Int)))).set q (some x)) H1) (hd : ∀ σ H, Pv xs.length σ H → D.nx σ H) :
    ∃ W : Nat → Nat → L2.St → Hp → Prop, (∃ m, W 0 m σ H) ∧ ∀ i m σ H, W i m σ H →
      ((IteT K a).stop i H ∧ D.nx σ H) ∨ ((IteT K a).go i H ∧ ∃ N : L2.St → Hp → Prop, (∀ σ' H', N σ' H' → ∃ m', m' < m ∧ W (i + 1) m' σ' H') ∧ ∀ x H', (IteT K a).yld i H x H' → gTup K 2 (gCons (gName p) (gCons (gName q) gNil)) x σ H' fun σ2 H2 => tb { D with nx := N, ct := N, bk := D.nx } σ2 H2) := by
  refine ⟨fun i m σ H => i + m = xs.length ∧ Pv i σ H, ⟨xs.length, Nat.zero_add _, h0⟩, ?_⟩
  rintro i m σ H ⟨e, pv⟩
  have o := ok i σ H pv
  cases m with
  | zero =>
    obtain rfl : i = xs.length := by omega
    exact .inl ⟨⟨xs, o, rfl⟩, hd σ H pv⟩
  | succ m =>
    have hi : i < xs.length := by omega
    refine .inr ⟨⟨xs, xs[i], o, List.getElem?_eq_getElem hi⟩, Pv (i + 1), fun σ' H' p' => ⟨m, by omega, by omega, p'⟩, fun v H' y => ?_⟩
    obtain ⟨T, x, rfl, hT, rfl, hx⟩ := y
    exact ⟨T, _, rfl, st_of upd_same, rfl, _, _, rfl, _, _, rfl, rfl, hs i x σ H _ (hx xs o) pv (same_new hT)⟩
/-! ### bounds in a row -/
def fstD : PyData → PyData
  | .tuple (a :: _) => a
  | _ => .none
def sndD : PyData → PyData
  | .tuple (_ :: b :: _) => b
  | _ => .none
def thdI : PyData → Int
  | .tuple [_, _, .int c] => c
  | _ => 0
/-- the item ahead, the last one ahead of the first -/
def ahead (ds : List PyData) (i : Nat) : PyData := if i = 0 then ds.getD (ds.length - 1) .none else ds.getD (i - 1) .none
def lnkP (ds : List PyData) (i : Nat) : Bool := PyData.eqv (sndD (ahead ds i)) (fstD (ds.getD i .none))
def lnkL (ds : List PyData) (i : Nat) : Bool := PyData.eqv (fstD (ds.getD i .none)) (sndD (ahead ds i))
def sumI (ds : List PyData) : Int := (ds.map thdI).sum
def isRing (ds : List PyData) : Bool := (!ds.isEmpty && ds.all isBd) && ((List.range ds.length).all (lnkP ds) && decide (sumI ds < 0))
def isRound (ds : List PyData) : Bool := (!ds.isEmpty && ds.all isBd) && ((List.range ds.length).all (lnkL ds) && decide (sumI ds < 0))
def isRingD : PyData → Bool
  | .list ds => isRing ds
  | .tuple ds => isRing ds
  | _ => false
theorem isBd_shape {d : PyData} (h : isBd d = true) : ∃ (x y : Str) (c : Int), d = .tuple [.str x, .str y, .int c] ∧ nmS x = true ∧ nmS y = true ∧ x ≠ y := by
  match d, h with
  | .tuple [a, b, c], h =>
    simp only [isBd, Bool.and_eq_true, Bool.not_eq_true'] at h
    obtain ⟨h1, h2, h3, h4⟩ := h
    cases c <;> first | (cases h1; done) | skip
    cases a <;> first | (cases h2; done) | skip
    cases b <;> first | (cases h3; done) | skip
    rename_i i x y
    refine ⟨x, y, i, rfl, h2, h3, fun e => ?_⟩
    subst e
    simp only [PyData.eqv] at h4
    rw [beq_self_eq_true] at h4
    cases h4
theorem getD_mem {ds : List PyData} {i : Nat} (h : i < ds.length) : ds.getD i .none ∈ ds := by
  rw [List.getD_eq_getElem?_getD, List.getElem?_eq_getElem h]
  exact List.getElem_mem h
theorem ahead_mem {ds : List PyData} {i : Nat} (h : i < ds.length) : ahead ds i ∈ ds := by
  unfold ahead
  split
  · exact getD_mem (by omega)
  · exact getD_mem (by omega)
theorem all_congr {n : Nat} {f g : Nat → Bool} (h : ∀ i, i < n → f i = g i) : (List.range n).all f = (List.range n).all g := by
  rw [Bool.eq_iff_iff, List.all_eq_true, List.all_eq_true]
  refine ⟨fun z i hi => ?_, fun z i hi => ?_⟩
  · rw [← h i (List.mem_range.mp hi)]
    exact z i hi
  · rw [h i (List.mem_range.mp hi)]
    exact z i hi
theorem isRing_round (ds : List PyData) : isRing ds = isRound ds := by
  unfold isRing isRound
  by_cases hb : ds.all isBd = true
  · have e : (List.range ds.length).all (lnkP ds) = (List.range ds.length).all (lnkL ds) := by
      refine all_congr fun i hi => ?_
      obtain ⟨x, y, c, e1, _⟩ := isBd_shape (List.all_eq_true.mp hb _ (getD_mem hi))
      obtain ⟨x', y', c', e2, _⟩ := isBd_shape (List.all_eq_true.mp hb _ (ahead_mem hi))
      unfold lnkP lnkL
      rw [e1, e2]
      show (y' == x) = (x == y')
      rw [Bool.eq_iff_iff, beq_iff_eq, beq_iff_eq]
      exact eq_comm
    rw [e]
  · rw [Bool.not_eq_true] at hb
    rw [hb, Bool.and_false, Bool.false_and, Bool.false_and]
end G
set_option Elab.async false
set_option linter.all false
set_option maxRecDepth 100000
set_option maxHeartbeats 4000000
namespace G
open PySem PySem.Spec L2
/-! ### the rules, the written part named -/
section
variable {X : Cx} (K : PySem.W.Frag)
theorem k_ixL (h : X.K = K := by rfl) : IxR X (rIxL K) := h ▸ ix_list
theorem k_ixT (h : X.K = K := by rfl) : IxR X (rIxT K) := h ▸ ix_tup
def rLenK : List V → Hp → VK → Prop := fun xs H Q => ∃ p ys, xs = [.ref p] ∧ (SqL K H p ys ∨ SqT K H p ys) ∧ Q (.int ys.length) H
theorem k_len (h : X.K = K := by rfl) : CallR X (.builtin "len") (rLenK K) := h ▸ call_len_seq
theorem k_in (h : X.K = K := by rfl) : OpR X (compareOp .In) (rIn K false) := h ▸ op_in_seq
theorem k_notIn (h : X.K = K := by rfl) : OpR X (compareOp .NotIn) (rIn K true) := h ▸ op_notIn_seq
theorem k_eqD {k : Nat} (hr : Room k X.A) (h : X.K = K := by rfl) : OpR X (compareOp .Eq) (rEqD K) := h ▸ op_eqD hr.units
theorem k_neD {k : Nat} (hr : Room k X.A) (h : X.K = K := by rfl) : OpR X (compareOp .NotEq) (rNeD K) := h ▸ op_neD hr.units
theorem k_all (hc : X.calm = true) (h : X.K = K := by rfl) : CallR X (.builtin "all") (rAll K) := h ▸ cr_all hc
theorem k_any (hc : X.calm = true) (h : X.K = K := by rfl) : CallR X (.builtin "any") (rAny K) := h ▸ cr_any hc
theorem k_sum (hc : X.calm = true) (h : X.K = K := by rfl) : CallR X (.builtin "sum") (rSum K) := h ▸ cr_sum hc
theorem k_isi (h : X.K = K := by rfl) : CallR X (.builtin "isinstance") (rIsi K) := h ▸ call_isi
theorem k_isiT (h : X.K = K := by rfl) : CallR X (.builtin "isinstance") (rIsiT K) := h ▸ call_isiT
theorem k_repr {k : Nat} (g : X.A.guards = some []) (hr : Room k X.A) (h : X.K = K := by rfl) : CallR X (.builtin "repr") (rRepr K) := h ▸ call_reprD g hr
theorem k_reprU {k : Nat} (g : X.A.guards = some []) (hu : X.A.units + 16 * k + 200 < cLine) (h : X.K = K := by rfl) : CallR X (.builtin "repr") (rRepr K) := h ▸ call_reprU g hu
theorem k_slL (h : X.K = K := by rfl) : SlR X (rSlL K) := h ▸ sl_list
theorem k_slT (h : X.K = K := by rfl) : SlR X (rSlT K) := h ▸ sl_tup
theorem k_catT (h : X.K = K := by rfl) : OpR X (binaryOp .Add) (rCatT K) := h ▸ op_catT
def rListK : List V → Hp → VK → Prop := fun xs H Q => ∃ p ys, xs = [.ref p] ∧ (SqL K H p ys ∨ SqT K H p ys) ∧ ∀ l, H l = none → Q (.ref l) (upd H l (.lst ys))
theorem k_listOf (h : X.K = K := by rfl) : CallR X (.type "list") (rListK K) := h ▸ call_list_of
def rTupK : List V → Hp → VK → Prop := fun xs H Q => ∃ p ys, xs = [.ref p] ∧ ((SqL K H p ys ∧ ∀ l, H l = none → Q (.ref l) (upd H l (.tup ys))) ∨ (SqT K H p ys ∧ Q (.ref p) H))
theorem k_tupOf (h : X.K = K := by rfl) : CallR X (.type "tuple") (rTupK K) := h ▸ call_tuple_of
theorem k_iL {tg l : Expr} {tl : TE} (hl : PE X l tl) (h : X.K = K := by rfl) : PI X tg l (iList K tl) := h ▸ pi_list hl
theorem k_iT {tg l : Expr} {tl : TE} (hl : PE X l tl) (h : X.K = K := by rfl) : PI X tg l (iTup K tl) := h ▸ pi_tup hl
theorem k_enL {e : Expr} {ta : TA} {p pos tpos : Pos} {elts : List Expr} {kk : Nat} (hg : Gl X "enumerate") (hm : X.mg "enumerate" = none) (ha : PA X [e] ta) (hs : starEach [e] X.env = [(false, eval e X.env)] := by rfl) (h : X.K = K := by rfl) :
    PI X (.Tuple elts kk tpos) (.Call (.Name "enumerate" p) [e] [] pos) (iEnum K ta) := h ▸ pi_enum hg hm ha hs
theorem k_enT {e : Expr} {ta : TA} {p pos tpos : Pos} {elts : List Expr} {kk : Nat} (hg : Gl X "enumerate") (hm : X.mg "enumerate" = none) (ha : PA X [e] ta) (hs : starEach [e] X.env = [(false, eval e X.env)] := by rfl) (h : X.K = K := by rfl) :
    PI X (.Tuple elts kk tpos) (.Call (.Name "enumerate" p) [e] [] pos) (iEnumT K ta) := h ▸ pi_enumT hg hm ha hs
theorem k_gT {pos : Pos} {es : List Expr} {k : Nat} {t : TGs} {n : Nat} (hc : X.calm = true) (h : PGs X es t) (hn : (assignEach es X.env).length = n := by rfl) (hst : (assignEach es X.env).findIdx? (·.1) = none := by rfl) (hK : X.K = K := by rfl) :
    PG X (.Tuple es k pos) (gTup K n t) := hK ▸ pg_tup hc h hn hst
def rJoin : V → List V → Hp → VK → Prop := fun x xs H Q => ∃ a p, ∃ ys : List Str, x = .str a ∧ xs = [.ref p] ∧ (SqL K H p (ys.map V.str) ∨ SqT K H p (ys.map V.str)) ∧ (ys.map (·.length)).sum + ys.length * a.length ≤ 16777216 ∧ Q (.str (Txt.join a ys)) H
theorem k_join {o e : Expr} {to te : TE} {apos pos : Pos} (ho : PE X o to) (he : PE X e te) (hs : starEach [e] X.env = [(false, eval e X.env)] := by rfl) (hb : attributeBase o "join" X.env (eval o X.env) = eval o X.env := by rfl) (hl : (apos.endLine == pos.line) = true := by rfl) (hK : X.K = K := by rfl) :
    PE X (.Call (.Attribute o "join" apos) [e] [] pos) (tM1 (rJoin K) to te) := hK ▸ pe_join ho he hs hb hl
/-- the list's methods -/
theorem k_m0 {name : Str} {id : String} {r : V → List V → Hp → VK → Prop} {o : Expr} {to : TE} {apos cpos : Pos} (slot : Slot "list" name id) (hty : typeOf (.builtin id) = pure (.type "method_descriptor")) (hm : MtR X id r) (ho : PE X o to)
    (hb : attributeBase o name X.env (eval o X.env) = eval o X.env := by rfl) (hl : (apos.endLine == cpos.line) = true := by rfl) (hK : X.K = K := by rfl) : PE X (.Call (.Attribute o name apos) [] [] cpos) (tBM0 K "list" r to) :=
  hK ▸ pe_bm0 PySem.F.plainAttrs_list slot hty hm ho hb hl
end
section
variable {K : PySem.W.Frag} {H : Hp} {Q : VK} {p : Addr} {xs : List V}
theorem c_hasL {R : Prop} (h : SqL K H p xs) (k : R) : (∃ xs, SqL K H p xs) ∧ R := ⟨⟨xs, h⟩, k⟩
theorem c_hasT {R : Prop} (h : SqT K H p xs) (k : R) : (∃ xs, SqT K H p xs) ∧ R := ⟨⟨xs, h⟩, k⟩
theorem c_lenKL (h : SqL K H p xs) (k : Q (.int xs.length) H) : rLenK K [.ref p] H Q := ⟨p, xs, rfl, .inl h, k⟩
theorem c_lenKT (h : SqT K H p xs) (k : Q (.int xs.length) H) : rLenK K [.ref p] H Q := ⟨p, xs, rfl, .inr h, k⟩
theorem c_listL (h : SqL K H p xs) (k : ∀ l H1, H l = none → Same H H1 → H1 l = some (.lst xs) → Q (.ref l) H1) : rListK K [.ref p] H Q := ⟨p, xs, rfl, .inl h, fun l hl => k l _ hl (same_new hl) upd_same⟩
theorem c_listT (h : SqT K H p xs) (k : ∀ l H1, H l = none → Same H H1 → H1 l = some (.lst xs) → Q (.ref l) H1) : rListK K [.ref p] H Q := ⟨p, xs, rfl, .inr h, fun l hl => k l _ hl (same_new hl) upd_same⟩
theorem c_tupL (h : SqL K H p xs) (k : ∀ l H1, H l = none → Same H H1 → H1 l = some (.tup xs) → Q (.ref l) H1) : rTupK K [.ref p] H Q := ⟨p, xs, rfl, .inl ⟨h, fun l hl => k l _ hl (same_new hl) upd_same⟩⟩
theorem c_reprD {v : V} {d : PyData} (h : Dp K H v d) (hf : Fine d) (k : Q (.str d.shown) H) : rRepr K [v] H Q := ⟨v, d, rfl, h, hf, k⟩
theorem c_slL {lo hi : Option Int} (h : SqL K H p xs) (k : ∀ l H1, H l = none → Same H H1 → H1 l = some (.lst (cutV xs lo hi)) → Q (.ref l) H1) : rSlL K (.ref p) lo hi H Q := ⟨p, xs, rfl, h, fun l hl => k l _ hl (same_new hl) upd_same⟩
theorem c_sl {r : V → Option Int → Option Int → Hp → VK → Prop} {te : TE} {tl th : TO} {σ : L2.St} (k : te σ H fun x H1 => tl σ H1 fun l H2 => th σ H2 fun u H3 => r x l u H3 Q) : tSl r te tl th σ H Q := k
theorem c_po {te : TE} {σ : L2.St} {R : Option Int → Hp → Prop} (k : te σ H fun x H1 => ∃ i, x = .int i ∧ R (some i) H1) : tPart te σ H R := k
theorem c_pn {σ : L2.St} {R : Option Int → Hp → Prop} (k : R none H) : tNoPart σ H R := k
theorem c_app {K' : PySem.W.Frag} {to te : TE} {σ : L2.St} (k : to σ H fun x H1 => tyV K' "list" x H1 ∧ te σ H1 fun y H2 => rAppend x [y] H2 Q) : tBM K' "list" rAppend to (tCons te tNil) σ H Q := k
theorem c_appT {K' : PySem.W.Frag} {R : Prop} (h : SqL K' H p xs) (k : R) : tyV K' "list" (.ref p) H ∧ R := ⟨.inl ⟨rfl, _, h⟩, k⟩
theorem c_append {y : V} (h : H p = some (.lst xs)) (hl : xs.length < 1000000) (k : Q .non (upd H p (.lst (xs ++ [y])))) : rAppend (.ref p) [y] H Q := ⟨p, xs, y, rfl, rfl, h, Nat.lt_of_lt_of_le hl (by decide), k⟩
theorem c_m1 {r : V → List V → Hp → VK → Prop} {to te : TE} {σ : L2.St} (k : to σ H fun x H1 => (∃ a, x = .str a) ∧ te σ H1 fun y H2 => r x [y] H2 Q) : tM1 r to te σ H Q := k
theorem c_m0 {r : V → List V → Hp → VK → Prop} {to : TE} {σ : L2.St} (k : to σ H fun x H1 => (∃ a, x = .str a) ∧ r x [] H1 Q) : tM0 r to σ H Q := k
theorem c_str {z : Str} {R : Prop} (k : R) : (∃ a, V.str z = .str a) ∧ R := ⟨⟨z, rfl⟩, k⟩
theorem c_join {a : Str} {ys : List Str} (h : SqL K H p (ys.map V.str)) (hz : (ys.map (·.length)).sum + ys.length * a.length ≤ 16777216) (k : Q (.str (Txt.join a ys)) H) : rJoin K (.str a) [.ref p] H Q := ⟨a, p, ys, rfl, rfl, .inl h, hz, k⟩
theorem c_bm0 {K' : PySem.W.Frag} {r : V → List V → Hp → VK → Prop} {to : TE} {σ : L2.St} (k : to σ H fun x H1 => tyV K' "list" x H1 ∧ r x [] H1 Q) : tBM0 K' "list" r to σ H Q := k
theorem c_bm {K' : PySem.W.Frag} {r : V → List V → Hp → VK → Prop} {to : TE} {t : TA} {σ : L2.St} (k : to σ H fun x H1 => tyV K' "list" x H1 ∧ t σ H1 fun xs H2 => r x xs H2 Q) : tBM K' "list" r to t σ H Q := k
theorem c_pop {y : V} (h : H p = some (.lst xs)) (hy : xs[xs.length - 1]? = some y) (k : Q y (upd H p (.lst xs.dropLast))) : rPop (.ref p) [] H Q := ⟨p, xs, y, rfl, rfl, h, hy, k⟩
theorem c_popAt {y : V} {z : Int} {j : Nat} (h : H p = some (.lst xs)) (h0 : -(2 ^ 63) ≤ z) (h1 : z < 2 ^ 63) (hj : seqIndex? z xs.length = some j) (hy : xs[j]? = some y) (k : Q y (upd H p (.lst (xs.eraseIdx j)))) : rPopAt (.ref p) [.int z] H Q := ⟨p, xs, z, j, y, rfl, rfl, h, h0, h1, hj, hy, k⟩
end
end G
set_option Elab.async false
set_option linter.all false
set_option maxRecDepth 100000
set_option maxHeartbeats 4000000
namespace G
open PySem PySem.Spec PyProof.Rows L2
/-- what the outside of a law asks of its call -/
def Told (z : Shared) : Except Value Flow → Shared → Prop := fun r z' => r = .ok (.ret (.bool true)) ∧ OldK z.heap z'.heap ∧ z'.os = z.os ∧ AllBare z'.gens
section
variable {P : Program} {w : World} {K : PySem.W.Frag} {mg mb : Str → Option Value} {k : Nat} {fa a : Addr} {x : Str} {sp : Sp} {z : Shared}
/-- from a tracked heap that holds at most the script -/
theorem end_core {vs : List Value} {H : Hp} (KX : K.In z.heap) (hns : z.heap.Ns mainGlobals mg) (hmb : z.heap.Ns builtinsNs mb) (hboot : ∀ y : Str, y ≠ "__name__" → mb y = bootBuiltins y)
    (hlim : z.heap.NoLimit) (hgen : z.gens = #[]) (hobj : z.heap.get? a = some { cls := .type "list", data := .seq vs.toArray }) (room : Room k callerA)
    (F : ∀ hb : Heap, Cal P w K mg hb CX0 k x sp) (hx : mg x = some (.ref fa))
    (only : Only H) (lays : HOk P w H z.heap) (one : ∀ b, H b ≠ none → b = a) (noK : H a ≠ none → K.lookup a = none)
    (ask : sp [.ref a] H (fun v _ => v = .bl true) fun _ _ _ => False) :
    codeAny (model P w) callerA (.call (.ref fa) ⟨[.ref a], []⟩) (Told z) z := by
  have free : ∀ {b : Addr} {ob : Obj} {es : Array DictEntry} {n : Nat}, z.heap.get? b = some ob → ob.data = .dict es n → H b = none := by
    intro b ob es n e1 e2
    by_cases hb : H b = none
    · exact hb
    · have hba := one b hb
      rw [hba, hobj] at e1
      obtain rfl := Option.some.inj e1
      exact nomatch e2
  have ns : ∀ {b : Addr} {m : Str → Option Value}, z.heap.Ns b m → (hidT z.heap H).Ns b m := by
    rintro b m ⟨ob, es, n, e1, e2, e3⟩
    exact ⟨ob, es, n, hidT_get e1 (free e1 e2), e2, e3⟩
  have kin : K.In (hidT z.heap H) := by
    intro b ob e1
    refine hidT_get (KX b ob e1) ?_
    by_cases hb : H b = none
    · exact hb
    · have hba := one b hb
      rw [hba] at hb e1
      rw [noK hb] at e1
      exact nomatch e1
  obtain ⟨ml, l1, l2⟩ := hlim
  have md : Mod K mg (hidT z.heap H) := ⟨kin, ns hns, ⟨mb, ns hmb, hboot⟩, ⟨ml, ns l1, l2⟩⟩
  have env : Env0 P w K mg (hidT z.heap H) callerA [] z H :=
    ⟨rfl, md, fun _ _ e1 => of_hidT e1, Nat.le_of_eq (hidT_size _ _), trivial, fun _ hb => (List.not_mem_nil hb).elim, lays, .of_eq hgen⟩
  obtain ⟨f, fd, ps, G, e, _, bd⟩ := (F (hidT z.heap H)).ex
  obtain rfl : f = fa := Value.ref.inj (Option.some.inj (e.symm.trans hx))
  have bind := bd z [.ref a] KX (G.len _ _ _ _ ask)
  refine codeAny_mono (G.go callerA [] z H ⟨[.ref a], []⟩ [.ref a] [.ref a] _ _ rfl room env bind (.cons rfl .nil) ask) ?_
  intro r z' h
  match r, h with
  | .ok (.ret u), ⟨v, H', e1, e2, un, lays', rel, (hv : v = .bl true)⟩ =>
    rw [hv] at rel
    obtain rfl : u = Value.bool true := rel
    refine ⟨rfl, OldK.of_keep fun b ob e3 => ?_, e1, e2⟩
    rcases only b with e4 | ⟨ob', ys, e4⟩
    · exact un.keep b ob e3 e4 (fun m => (List.not_mem_nil m).elim) (by simp)
    · have g1 := (lays b _ e4).1
      have g2 := (lays' b _ (un.frzs b ob' _ e4)).1
      rw [e3] at g1
      rw [Option.some.inj g1]
      exact g2
theorem end_call {vs : List Value} {ns : List Int} (KX : K.In z.heap) (hns : z.heap.Ns mainGlobals mg) (hmb : z.heap.Ns builtinsNs mb) (hboot : ∀ y : Str, y ≠ "__name__" → mb y = bootBuiltins y)
    (hlim : z.heap.NoLimit) (hgen : z.gens = #[]) (hobj : z.heap.get? a = some { cls := .type "list", data := .seq vs.toArray }) (hints : IntsAre vs ns) (hlen : ns.length ≤ sizeLine) (room : Room k callerA)
    (F : ∀ hb : Heap, Cal P w K mg hb CX0 k x sp) (hx : mg x = some (.ref fa))
    (ask : ∀ H : Hp, SqL K H a (ns.map V.int) → sp [.ref a] H (fun v _ => v = .bl true) fun _ _ _ => False) :
    codeAny (model P w) callerA (.call (.ref fa) ⟨[.ref a], []⟩) (Told z) z := by
  have rel := vals_ints hints
  cases hk : K.lookup a with
  | some ob =>
    have e1 := KX a ob hk
    rw [hobj] at e1
    obtain rfl := Option.some.inj e1
    refine end_core (H := fun _ => none) KX hns hmb hboot hlim hgen hobj room F hx (fun _ => .inl rfl) (fun b u e2 => nomatch e2) (fun b e2 => (e2 rfl).elim) (fun e2 => (e2 rfl).elim) (ask _ (.inr ⟨_, vs.toArray, _, hk, rfl, rfl, rfl, ?_, by simpa using rel⟩))
    rw [List.size_toArray, hints.length]
    exact hlen
  | none =>
    have at1 : (upd (fun _ => none) a (.frz { cls := .type "list", data := .seq vs.toArray } (.lst (ns.map V.int))) : Hp) a = some (.frz { cls := .type "list", data := .seq vs.toArray } (.lst (ns.map V.int))) := upd_same
    have off : ∀ b, b ≠ a → (upd (fun _ => none) a (.frz { cls := .type "list", data := .seq vs.toArray } (.lst (ns.map V.int))) : Hp) b = none := fun b hb => upd_ne hb
    refine end_core KX hns hmb hboot hlim hgen hobj room F hx (fun b => ?_) (fun b u e2 => ?_) (fun b e2 => ?_) (fun _ => hk) (ask (upd (fun _ => none) a (.frz { cls := .type "list", data := .seq vs.toArray } (.lst (ns.map V.int)))) (.inl (.inr ⟨_, at1⟩)))
    · by_cases hb : b = a
      · rw [hb]
        exact .inr ⟨_, _, at1⟩
      · exact .inl (off b hb)
    · by_cases hb : b = a
      · rw [hb, at1] at e2
        obtain rfl := Option.some.inj e2
        rw [hb]
        exact ⟨hobj, by rw [List.length_map]; exact hlen, vs, _, rel, hobj⟩
      · rw [off b hb] at e2
        exact nomatch e2
    · by_cases hb : b = a
      · exact hb
      · exact (e2 (off b hb)).elim
end
/-- the law's end: a call of its def that is promised where no repr is under way -/
theorem end_walk {l : PySem.W.OpenLaw} {n k : Nat} {q : Program} {loose : List Str} {XP : (Str → Option Value) → Heap → Prop} {YP : World → Heap → Prop} {d : DefRec} {K : Params → PySem.W.Frag} {sp : PySem.W.Frag → Sp}
    (hn : l.most = some n) (hz : n ≤ sizeLine) (hdf : d.params.defaults = []) (room : Room k callerA) (hY : ∀ (w : World) (h : Heap), YP w h → (K w.params).In h)
    (F : ∀ (w : World) (mg : Str → Option Value) (h : Heap), (K w.params).In h → h.Ns mainGlobals mg → ∀ hb : Heap, Cal l.prog w (K w.params) mg hb CX0 k d.name (sp (K w.params)))
    (ask : ∀ (K : PySem.W.Frag) (H : Hp) (a : Addr) (ns : List Int), ns.length ≤ n → SqL K H a (ns.map V.int) → sp K [.ref a] H (fun v _ => v = .bl true) fun _ _ _ => False) :
    PySem.W.WalkO q loose XP YP l.row.toRowW d [] fun f us => PySem.call f us :=
  Att.attach_call hn hdf fun w z₀ z mg mb fa o pm cd doc a vs ns Gr Y ho hd hcd hmg hobj hints hlen hgen => by
    have kin := hY w _ Y
    exact end_call kin Gr.T.g Gr.T.b Gr.T.builtins Gr.T.nolimit hgen hobj hints (Nat.le_trans hlen hz) room (F w mg _ kin Gr.T.g) hmg fun H h => ask _ H a ns hlen h
/-- a def of the text, from what the top has written -/
theorem dfn_mk {K : PySem.W.Frag} {h : Heap} {mg : Str → Option Value} {x : Str} {st : Stmt} {f : Addr} {oc : Value} {od an : Option Addr} {osl : Array (Option Value)} {kV doc pm cdv ct : Value} (KX : K.In h) (ns : h.Ns mainGlobals mg)
    (e : PySem.W.nsIn K mainGlobals x = some (some (.ref f)))
    (l : K.lookup f = some ⟨oc, od, .func (PySem.W.fnOf x x (defArgs st) (defBody st) (defScope st) .none kV doc pm an cdv ct), osl⟩) (c : PySem.W.codeIn K cdv x = true) (kp : PySem.W.keepIn K (.ref f) = true) :
    ∃ f fd, Dfn K mg x st f fd := ⟨f, _, fun_mk l c kp, PySem.W.mg_of KX ns e⟩
end G
set_option Elab.async false
set_option linter.all false
set_option maxRecDepth 100000
set_option maxHeartbeats 4000000
namespace G
open PySem PySem.Spec PyProof.Rows L2
/-! ### an own error whose __init__(self, fld) says super().__init__(text) and stores fld -/
def eA (fld : Str) (p1 p2 : Pos) : Arguments where
  posonlyargs := []
  args := [⟨"self", none, p1⟩, ⟨fld, none, p2⟩]
  vararg := none
  kwonlyargs := []
  kw_defaults := []
  kwarg := none
  defaults := []
def eB (fld msg : Str) (j : Nat) (p0 p1 p2 p3 p4 p5 q1 q2 q3 q4 : Pos) : List Stmt :=
  [.Expr (.Call (.Attribute (.Call (.Name "super" p0) [] [] p1) "__init__" p2) [.Constant (.str msg) j p3] [] p4) p5, .Assign [.Attribute (.Name "self" q1) fld q2] (.Name fld q3) q4]
def eS (fld : Str) : Scope where
  kind := .function
  names := [("self", .local), (fld, .local), ("__class__", .free), ("super", .globalImplicit)]
  isGenerator := false
  isCoroutine := false
  more := []
/-- super().__init__(text) is a call of a method (it stands on one line) -/
def eM (msg : Str) (j : Nat) (r0 r1 r2 r3 r4 : Pos) : Prop := ∀ env : Env, ∃ pl : Sem Bool, eval (.Call (.Attribute (.Call (.Name "super" r0) [] [] r1) "__init__" r2) [.Constant (.str msg) j r3] [] r4) env = (do
  let ov ← attributeBase (.Call (.Name "super" r0) [] [] r1) "__init__" env (eval (.Call (.Name "super" r0) [] [] r1) env)
  standAt r2.atName
  let (f, first) ← holding [ov] (getMethod ov "__init__" pl)
  callWith r4 f first (backTo r4 (starEach [.Constant (.str msg) j r3] env)) [])
abbrev eO (C t : Addr) (d : Option Addr) : Obj := { cls := .ref C, dict := d, data := .fields #[.ref t, .none, .none, .none, .bool false, .none] }
/-- what the written part says of such a class, at C -/
structure ErrC (prog : Program) (K : PySem.W.Frag) (fld : Str) (C : Addr) : Prop where
  cls : ∃ nm q N bs bm sn sub ab col dd k0 k1 k2 k3 k5, K.lookup C = some (excClassObj nm q C N bs bm true sn sub ab col dd k0 k1 k2 k3 k5 "ValueError.__new__") ∧ PySem.HandSPX.refsVE bm = true ∧
    PySem.W.alongIn K "__init__" bm = some (some (.builtin "ValueError.__init__"))
  sa : PySem.W.findIn K (.ref C) "__setattr__" = some (some (.builtin "object.__setattr__"))
  noN : PySem.W.findIn K (.ref C) fld = some none
  fn : ∃ (fI : Addr) (oc : Value) (od : Option Addr) (osl : Array (Option Value)) (qual : Str) (doc pm : Value) (an : Option Addr) (cda cc : Addr) (ct : Value) (msg : Str) (j : Nat) (p1 p2 r0 r1 r2 r3 r4 r5 q1 q2 q3 q4 : Pos),
    eM msg j r0 r1 r2 r3 r4 ∧ PySem.W.findIn K (.ref C) "__init__" = some (some (.ref fI)) ∧ PySem.W.typeIn K (.ref fI) = some (.type "function") ∧
    K.lookup fI = some ⟨oc, od, .func (PySem.W.ksFn "__init__" qual (eA fld p1 p2) (eB fld msg j r0 r1 r2 r3 r4 r5 q1 q2 q3 q4) (eS fld) .none .none doc pm an (.ref cda) ct cc), osl⟩ ∧ PySem.W.codeIn K (.ref cda) qual = true ∧
    (∃ cl dd vs sl file tf, K.lookup cda = some ⟨cl, dd, .fields vs, sl⟩ ∧ vs[2]? = some (.str file tf) ∧ ((prog.main.file : Str) == file) = true) ∧ ∃ cl dd sl, K.lookup cc = some ⟨cl, dd, .cell (some (.ref C)), sl⟩
  ty : PySem.W.subIn K (.ref C) (.type "ValueError") = some true
  opq : PySem.W.nsIn K cStatics "thirdparty.any" = some none
  top : (prog.main.scope.names.lookup ("super" : Str)).isSome = false
  ns : (fld == ("self" : Str)) = false
  nc : (("__class__" : Str) == fld) = false
  nu : (("super" : Str) == fld) = false
  nd : (fld == ("__debug__" : Str)) = false
  bnd : ∀ (qual : Str) (p1 p2 : Pos) (body : List Stmt) (doc pm : Value) (an : Option Addr) (cd ct : Value) (cc : Addr) (a v : Value), bindArgs (PySem.W.ksFn "__init__" qual (eA fld p1 p2) body (eS fld) .none .none doc pm an cd ct cc) ⟨[a, v], []⟩ = pure [(("self" : Str), a), (fld, v)]
section
variable {prog : Program} {w : World} {A : Around} {R : Result → Shared → Prop} {s : Shared} {K : PySem.W.Frag} {mg mb : Str → Option Value} {C : Addr} {fld : Str}
theorem es_self : (eS fld).names.lookup ("self" : Str) = some .local := by
  unfold eS
  simp [List.lookup]
theorem es_fld (h : (fld == ("self" : Str)) = false) : (eS fld).names.lookup fld = some .local := by
  unfold eS
  simp [List.lookup, h]
theorem es_cls (h : (("__class__" : Str) == fld) = false) : (eS fld).names.lookup ("__class__" : Str) = some .free := by
  unfold eS
  have e1 : (("__class__" : Str) == ("self" : Str)) = false := by decide
  simp [List.lookup, h, e1]
theorem es_sup (h : (("super" : Str) == fld) = false) : (eS fld).names.lookup ("super" : Str) = some .globalImplicit := by
  unfold eS
  have e1 : (("super" : Str) == ("self" : Str)) = false := by decide
  have e2 : (("super" : Str) == ("__class__" : Str)) = false := by decide
  simp [List.lookup, h, e1, e2]
/-- the bound ValueError.__init__ is called: other args are laid -/
theorem ve_bound {E : Value → Shared → Prop} {h : Heap} {gs : Array GenState} {dr : Drawn} {tk : Nat} {os : OsState} {nm q : Str} {N : Addr} {bs bm : List Value} {hd : Bool} {sn : List Str} {sub : List Value} {ab : Bool} {col : Option Bool} {dd : Option Addr} {k0 k1 k2 k3 k5 : Option Value} {u x t0 : Addr} {us : List Value} {Q : Value → Shared → Prop}
    (hC : h.get? C = some (excClassObj nm q C N bs bm hd sn sub ab col dd k0 k1 k2 k3 k5 "ValueError.__new__")) (hx : h.get? x = some (eO C t0 none)) (hu : h.get? u = some (PySem.W.kxs_mw "ValueError.__init__" x)) (hl : us.length ≤ sizeLine)
    (hq : ∀ h' t1, (∀ b o, b ≠ x → h.get? b = some o → h'.get? b = some o) → h'.get? x = some (eO C t1 none) → Q .none ⟨h', gs, dr, tk, os⟩) :
    wpAny (model prog w) A (call (.ref u) us) Q E ⟨h, gs, dr, tk, os⟩ := by
  have FB := PySem.F.excBase_ValueError
  have tw : (Value.type "method-wrapper" == Value.type "method" || Value.type "method-wrapper" == Value.type "builtin_function_or_method" || Value.type "method-wrapper" == Value.type "method-wrapper") = true := by
    decide
  refine wpAny_call (codeAny_of_tree ?_)
  show wpAny _ (Around.in1 A) (callAny (.ref u) ⟨us, []⟩) _ _ _
  unfold callAny
  refine wpAny_bind (wpAny_load hu ?_)
  simp only [PySem.W.kxs_mw, tw, if_true]
  refine PySem.W.KFB.if_so (by decide) (wpAny_bind (PySem.ESX.check_bound FB hC hx rfl (wpAny_bind (wpAny_pure (wpAny_pure ⟨Code.quiet_builtin _ (by decide +kernel), codeAny_builtin FB.initEntry ?_⟩)))))
  rw [Around.under_plainId FB.init.plain _]
  wp_walk
  refine hq _ (Heap.objs h).size (fun b o hb e => ?_) ?_
  · rw [Heap.get?_update_other _ _ fun z => hb z.symm]
    exact Heap.get?_push_of_some _ e
  · rw [Heap.get?_update_self _ (Heap.get?_push_of_some _ hx) rfl]
    rfl
/-- how the error stands behind its __init__ -/
structure ErrAt (h h' : Heap) (x C dx : Addr) (fld : Str) (v : Value) : Prop where
  keep : ∀ b o, b ≠ x → h.get? b = some o → h'.get? b = some o
  obj : ∃ t1, h'.get? x = some (eO C t1 (some dx))
  far : h.objs.size ≤ dx
  ne : dx ≠ x
  ns : h'.Ns1 dx fun y => if y = fld then some v else none
theorem err_init (T : ErrC prog K fld C) {x t0 : Addr} {v : Value} {fI : Addr} {oc : Value} {od : Option Addr} {osl : Array (Option Value)} {qual : Str} {doc pm : Value} {an : Option Addr} {cda cc : Addr} {ct : Value} {msg : Str} {j : Nat} {p1 p2 r0 r1 r2 r3 r4 r5 q1 q2 q3 q4 : Pos}
    (hm : eM msg j r0 r1 r2 r3 r4) (ho : K.lookup fI = some ⟨oc, od, .func (PySem.W.ksFn "__init__" qual (eA fld p1 p2) (eB fld msg j r0 r1 r2 r3 r4 r5 q1 q2 q3 q4) (eS fld) .none .none doc pm an (.ref cda) ct cc), osl⟩) (hcd : PySem.W.codeIn K (.ref cda) qual = true)
    (hcode : ∃ cl dd vs sl file tf, K.lookup cda = some ⟨cl, dd, .fields vs, sl⟩ ∧ vs[2]? = some (.str file tf) ∧ ((prog.main.file : Str) == file) = true) (hcell : ∃ cl dd sl, K.lookup cc = some ⟨cl, dd, .cell (some (.ref C)), sl⟩)
    (X : K.In s.heap) (hns : s.heap.Ns mainGlobals mg) (hms : mg "super" = none) (hmb : s.heap.Ns builtinsNs mb) (hbb : ∀ y : Str, y ≠ "__name__" → mb y = bootBuiltins y) (hlim : s.heap.NoLimit) (hx : s.heap.get? x = some (eO C t0 none)) (hnx : K.lookup x = none) (hroom : A.depth < recursionLimit)
    (hq : ∀ h' tk dx, ErrAt s.heap h' x C dx fld v → R (.ok (.ret .none)) { s with heap := h', toks := tk }) :
    codeAny (model prog w) A (.call (.ref fI) ⟨[.ref x, v], []⟩) R s := by
  obtain ⟨nm, q, N, bs, bm, sn, sub, ab, col, dd, k0, k1, k2, k3, k5, hC, hbm, hal⟩ := T.cls
  obtain ⟨cl1, dd1, vs1, sl1, file, tf, hcode, hvs, hfile⟩ := hcode
  obtain ⟨cl2, dd2, sl2, hcell⟩ := hcell
  have hcl : PySem.W.clsIn K C = some { name := nm, bases := bs, mro := .ref C :: bm, ns := N, qualname := q, hasDict := true, slotNames := sn, subclasses := sub, abstract := ab, collection := col, hasDel := false } := by
    unfold PySem.W.clsIn
    rw [hC] <;> rfl
  refine ks_codeAny_call_defAt (binds := [("self", .ref x), (fld, v)]) hroom (X _ _ ho) rfl hlim (PySem.W.codeRec_of X hcd) rfl (BindsTo.of_eq ?_) ?_ ?_ (fun h₁ hl₁ k₁ => ?_)
  · exact T.bnd _ _ _ _ _ _ _ _ _ _ _ _
  · intro y hy
    simp only [eS, List.mem_cons, List.not_mem_nil, or_false] at hy
    rcases hy with rfl | rfl | rfl | rfl <;> exact fun z => nomatch z
  · intro y hy
    simp only [List.mem_cons, List.not_mem_nil, or_false] at hy
    rcases hy with rfl | rfl
    · exact es_self
    · exact es_fld T.ns
  have e1 := T.nc
  have e2 := T.nu
  have X₁ := X.keeps k₁
  have hx₁ := k₁ _ _ hx
  obtain ⟨pl, hev⟩ := hm (callEnv (PySem.W.ksFn "__init__" qual (eA fld p1 p2) (eB fld msg j r0 r1 r2 r3 r4 r5 q1 q2 q3 q4) (eS fld) .none .none doc pm an (.ref cda) ct cc) s.heap.objs.size fI)
  refine ks_wpAt_execs_cons (ks_wpAt_Expr_any (ks_wpAt_MethodCall (pl := pl) (ks_wpAt_super_base (es_sup e2) (es_cls e1) (by decide) rfl (X₁ _ _ ho) rfl rfl rfl (X₁ _ _ hcode) rfl hvs hfile T.top ?_) hev))
  refine PySem.W.ks_loadName_global rfl (es_sup e2) (PySem.Calls.loadGlobal_builtin (hns.keeps k₁) hms (hmb.keeps k₁) ((hbb _ (by decide +kernel)).trans (by decide +kernel)) ⟨rfl, ?_⟩)
  refine wpAny_loadName_free rfl (es_cls e1) rfl ⟨_, X₁ _ _ hcell, rfl⟩ ?_
  refine wpAny_loadName_local rfl es_self hl₁ (v := .ref x) ?_ ?_
  · show List.lookup ("self" : Str) [(fld, v), (("self" : Str), Value.ref x)] = _
    have e3 : (("self" : Str) == fld) = false := by
      rw [Bool.beq_comm]
      exact T.ns
    simp [List.lookup, e3]
  have hmC := X₁ _ _ hC
  refine ks_wpAny_isType_cls hmC rfl ⟨rfl, ?_⟩
  have hsub : PySem.W.mroIn K C (.ref C) = some true := by
    unfold PySem.W.mroIn
    rw [hcl]
    simp
  refine ks_wpAny_call_super hmC rfl hx₁ rfl (fun c z => nomatch z) (PySem.W.looks_mroIn X₁ hsub) (fun h₂ hso k₂ => ?_)
  have X₂ := X₁.keeps k₂
  have hx₂ := k₂ _ _ hx₁
  have I₂ : PySem.W.InstAt h₂ x (eO C t0 none) C none := ⟨hx₂, rfl, rfl, trivial⟩
  refine PySem.W.kxs_getMethod (l₀ := .ref C :: bm) (l := bm) PySem.W.kxs_ValueError hso (PySem.W.looks_opaque X₂ T.opq) ?_ ?_ X₂ hal (I₂.type.andThen (PySem.W.looks_subIn X₂ T.ty)) (PySem.W.ks_ne X₂ I₂ hcl) (by decide) ?_
  · exact fun A Q E s k q => wpAny_bind ((PySem.W.looks_clsIn X₂ hcl) A _ E s k (wpAny_pure q))
  · simp
  refine PySem.W.kxs_callWith (i := "ValueError.__init__") (x := x) rfl (PySem.Calls.evalArgs_plain (PySem.Calls.spliced_cons (PySem.Calls.Constant_str (pos := r3) (k := j) (PySem.Calls.spliced_nil ⟨?_, ?_⟩))))
  · exact Heap.get?_push_at rfl rfl
  have k₃ : ∀ b o, h₂.get? b = some o → (h₂.push (PySem.W.kxs_mw "ValueError.__init__" x)).get? b = some o := fun b o e => Heap.get?_push_of_some _ e
  refine ve_bound (k₃ _ _ (k₂ _ _ hmC)) (k₃ _ _ hx₂) (Heap.get?_push_at rfl rfl) (by show 1 ≤ sizeLine; decide) fun h₄ t1 k₄ hx₄ => ?_
  have kk : ∀ b o, b ≠ x → h₁.get? b = some o → h₄.get? b = some o := fun b o hb e => k₄ b o hb (k₃ _ _ (k₂ _ _ e))
  have X₄ : K.In h₄ := fun b o e => kk b o (fun z => by rw [z, hnx] at e; exact nomatch e) (X₁ _ _ e)
  have hLx : s.heap.objs.size ≠ x := Nat.ne_of_gt (Heap.lt_size hx)
  have hl₄ : h₄.Ns s.heap.objs.size (fun y => [(("self" : Str), Value.ref x), (fld, v)].reverse.lookup y) := by
    obtain ⟨o, es, ep, g1, g2⟩ := hl₁
    exact ⟨o, es, ep, kk _ _ hLx g1, g2⟩
  refine wpAt_of_wpAny (wpAny_execs_cons (plainObj_wpAny_Assign_Attribute ?_))
  refine wpAny_Name (wpAny_loadName_local rfl (es_fld T.ns) hl₄ (v := v) ?_ (wpAny_Name (wpAny_loadName_local rfl es_self hl₄ (v := .ref x) ?_ ?_) (by decide))) ?_
  · show List.lookup fld [(fld, v), (("self" : Str), Value.ref x)] = _
    simp [List.lookup]
  · show List.lookup ("self" : Str) [(fld, v), (("self" : Str), Value.ref x)] = _
    have e3 : (("self" : Str) == fld) = false := by
      rw [Bool.beq_comm]
      exact T.ns
    simp [List.lookup, e3]
  rotate_left
  · exact T.nd
  refine PySem.W.set_plain X₄ (ox := eO C t1 none) (od := none) ⟨hx₄, rfl, rfl, trivial⟩ T.sa ?_
  refine PySem.HandSPX.exc_osa X₄ hx₄ hcl (show PySem.HandSPX.refsVE (.ref C :: bm) = true from hbm) rfl T.noN (fun h₅ tk₅ dx k₅ dn dne hx₅ hn₅ => ?_)
  have z1 : s.heap.objs.size < h₄.objs.size := hl₄.lt
  show wpAny _ _ (execs [] _) _ _ _
  exact wpAny_execs_nil (hq h₅ tk₅ dx ⟨fun b o hb e => k₅ b o hb (kk b o hb (k₁ b o e)), ⟨t1, hx₅⟩, Nat.le_of_lt (Nat.lt_of_lt_of_le z1 dn), dne, hn₅⟩)
/-- a made error -/
structure ErrNew (h h' : Heap) (e C d : Addr) (fld : Str) (v : Value) : Prop where
  keep : ∀ b o, h.get? b = some o → h'.get? b = some o
  far : h.objs.size ≤ e
  obj : ∃ t1, h'.get? e = some (eO C t1 (some d))
  dfar : h.objs.size ≤ d
  ne : d ≠ e
  ns : h'.Ns1 d fun y => if y = fld then some v else none
theorem err_made (T : ErrC prog K fld C) {v : Value} (X : K.In s.heap) (hns : s.heap.Ns mainGlobals mg) (hms : mg "super" = none) (hmb : s.heap.Ns builtinsNs mb) (hbb : ∀ y : Str, y ≠ "__name__" → mb y = bootBuiltins y) (hlim : s.heap.NoLimit) (hroom : A.depth + 1 < recursionLimit)
    (hq : ∀ h' tk e d, ErrNew s.heap h' e C d fld v → R (.ok (.ret (.ref e))) { s with heap := h', toks := tk }) : codeAny (model prog w) A (.call (.ref C) ⟨[v], []⟩) R s := by
  obtain ⟨nm, q, N, bs, bm, sn, sub, ab, col, dd, k0, k1, k2, k3, k5, hC, hbm, hal⟩ := T.cls
  obtain ⟨fI, oc, od, osl, qual, doc, pm, an, cda, cc, ct, msg, j, p1, p2, r0, r1, r2, r3, r4, r5, q1, q2, q3, q4, hm, hi, ht, ho, hcd, hcode, hcell⟩ := T.fn
  obtain ⟨hp, gs, dr, tk, os⟩ := s
  have up : ∀ b o, hp.get? b = some o → ((hp.push (PySem.W.kdv_tup [v])).push (PySem.HandSPX.excO C hp.objs.size)).get? b = some o := fun b o e => Heap.get?_push_of_some _ (Heap.get?_push_of_some _ e)
  have at1 : ((hp.push (PySem.W.kdv_tup [v])).push (PySem.HandSPX.excO C hp.objs.size)).get? (hp.objs.size + 1) = some (eO C hp.objs.size none) := by heap_get
  have nk : K.lookup (hp.objs.size + 1) = none := by
    cases e : K.lookup (hp.objs.size + 1) with
    | none => rfl
    | some o =>
      have z := Heap.lt_size (show hp.get? (hp.objs.size + 1) = some o from X _ _ e)
      exact (Nat.lt_irrefl _ (Nat.lt_of_succ_lt z)).elim
  refine PySem.HandSPX.call_own PySem.F.excBase_ValueError (fun Y => PySem.HandSPX.refsVE_contains Y bm hbm) (X _ _ hC) (PySem.W.looks_findIn X hi) (fun me => PySem.W.bind_fn X me ht) (by show 1 ≤ sizeLine; decide) ?_
  refine err_init (s := ⟨(hp.push (PySem.W.kdv_tup [v])).push (PySem.HandSPX.excO C hp.objs.size), gs, dr, tk, os⟩) T hm ho hcd hcode hcell (X.keeps up) (hns.keeps up) hms (hmb.keeps up) hbb (hlim.keeps up) at1 nk hroom fun h' tk' dx a => ?_
  refine ⟨rfl, hq h' tk' (hp.objs.size + 1) dx ⟨fun b o e => a.keep b o (Nat.ne_of_lt (Nat.lt_succ_of_lt (Heap.lt_size e))) (up b o e), Nat.le_succ _, a.obj, ?_, a.ne, a.ns⟩⟩
  have z := a.far
  have z2 : ((hp.push (PySem.W.kdv_tup [v])).push (PySem.HandSPX.excO C hp.objs.size)).objs.size = hp.objs.size + 1 + 1 := by
    rw [Heap.size_push, Heap.size_push]
  have z3 : hp.objs.size + 1 + 1 ≤ dx := by
    rw [← z2]
    exact z
  show hp.objs.size ≤ dx
  omega
end
/-! ### the error in the layer -/
theorem relO_one {fld : Str} {v : V} {u : Value} (r : RelV v u) (y : Str) : RelO (List.lookup y [(fld, v)]) (if y = fld then some u else none) := by
  by_cases h : y = fld
  · rw [if_pos h, h, show List.lookup fld [(fld, v)] = some v by simp [List.lookup]]
    exact r
  · have e : (y == fld) = false := beq_false_of_ne h
    rw [if_neg h, show List.lookup y [(fld, v)] = none by simp [List.lookup, e]]
    trivial
/-- C(e) -/
def tMkE (C : Addr) (fld : Str) (ta : TA) : L2.St → Hp → XK → Prop := fun σ H Q => ta σ H fun vs H1 => ∃ v, vs = [v] ∧ ∀ d, H1 d = none → Q (.ref C) (some d) (upd H1 d (.xd [(fld, v)]))
/-- the class under its name -/
structure ErrN (prog : Program) (K : PySem.W.Frag) (mg : Str → Option Value) (x fld : Str) (C : Addr) : Prop extends ErrC prog K fld C where
  gC : mg x = some (.ref C)
  kC : PySem.W.keepIn K (.ref C) = true
  exC : PySem.W.subIn K (.ref C) (.type "BaseException") = some true
  tyC : PySem.W.typeIn K (.ref C) = some (.type "type")
  hdC : PySem.W.hasDictIn K C = true
  ga : PySem.W.findIn K (.ref C) "__getattribute__" = some (some (.builtin "BaseException.__getattribute__"))
  gg : PySem.W.findIn K (.ref C) "__getattr__" = some none
section
variable {X : Cx} {C : Addr} {x fld : Str}
theorem pmk_err {a : Expr} {ta : TA} {p pos : Pos} {k : Nat} (T : ErrN X.prog X.K X.mg x fld C) (hms : X.mg "super" = none) (hr : Room k X.A) (hk : 1 ≤ k) (hg : Gl X x) (ha : PA X [a] ta) (hdb : (x == ("__debug__" : Str)) = false := by decide)
    (he : starEach (a :: []) X.env = (false, eval a X.env) :: starEach [] X.env := by rfl) (hpl : (backTo pos (starEach [] X.env)).any (·.1) = false := by rfl) : PMk X (.Call (.Name x p) [a] [] pos) (tMkE C fld ta) := by
  intro pins s σ H Q I h
  refine wpAny_Call_Name_kw (ld_glob I hg T.gC ?_ hdb)
  refine PySem.W.callWith_K (h₀ := X.base) I.ok.mod.kin T.kC (thn (ha.run pos pins s σ H _ I h) fun us s1 z => ?_) he hpl
  obtain ⟨vs, H1, I1, rel, v, rfl, q1⟩ := z
  refine ⟨I1.kIn, ?_⟩
  obtain ⟨u, rfl, rv⟩ : ∃ u, us = [u] ∧ RelV v u := by
    cases rel with
    | cons rv rn =>
      cases rn
      exact ⟨_, rfl, rv⟩
  show wpAny _ _ (call (.ref C) [u]) _ _ _
  have lim := I1.nolimit
  have kin := I1.kIn
  obtain ⟨mb, nb, hbb⟩ := I1.ok.mod.blt
  have nb1 := nb.keeps I1.bk
  have ng1 := I1.mod.glob.keeps I1.bk
  obtain ⟨hp, gs, dr, tk, os⟩ := s1
  refine wpAny_call (err_made T.toErrC kin ng1 hms nb1 hbb lim (by have := hr.dp; omega) fun h' tk' e d M => ?_)
  show MkP X pins σ Q (.ref e) ⟨h', gs, dr, tk', os⟩
  obtain ⟨t1, hoe⟩ := M.obj
  obtain ⟨Gh, g1, g2⟩ := restrict h' fun b => decide (b ≠ e)
  have gk : ∀ b, b ≠ e → Gh.get? b = h'.get? b := fun b hb => g1 b (decide_eq_true hb)
  have ge : Gh.get? e = none := g2 e (by simp)
  have old : ∀ b o, hp.get? b = some o → Gh.get? b = some o := fun b o z => (gk b (Nat.ne_of_lt (Nat.lt_of_lt_of_le (Heap.lt_size z) M.far))).trans (M.keep b o z)
  have ob : ObjOk X.prog X.w (upd H1 d (.xd [(fld, v)])) Gh d (.xd [(fld, v)]) := ⟨_, M.ns.at (fun o z => (gk d M.ne).trans z), fun y => relO_one rv y⟩
  have J : Inv X pins σ (upd H1 d (.xd [(fld, v)])) ⟨Gh, gs, dr, tk', os⟩ := I1.laid (t' := tk') old M.dfar ob
  refine ⟨e, _, _, ⟨Gh, gs, dr, tk', os⟩, _, .ref C, some d, rfl, J, fun b o z => ?_, ge, hoe, ⟨rfl, rfl⟩, rfl, rfl, ?_, rfl, I1.bare, raises_own T.exC T.tyC, q1 d (I1.hok.fresh M.dfar)⟩
  · by_cases hb : b = e
    · rw [hb] at z
      exact nomatch (show (none : Option Obj) = some o from ge.symm.trans z)
    · exact (gk b hb).symm.trans z
  · rw [upd_ne (fun z => M.ne z.symm)]
    exact I1.hok.fresh M.far
/-- raise C(e) -/
theorem ps_raiseE {a : Expr} {ta : TA} {W : WX} {p pos pos2 : Pos} {k : Nat} (hc : X.calm = true) (T : ErrN X.prog X.K X.mg x fld C) (hms : X.mg "super" = none) (hr : Room k X.A) (hk : 1 ≤ k) (tk : Takes X W) (hg : Gl X x) (ha : PA X [a] ta) (hdb : (x == ("__debug__" : Str)) = false := by decide)
    (he : starEach (a :: []) X.env = (false, eval a X.env) :: starEach [] X.env := by rfl) (hpl : (backTo pos (starEach [] X.env)).any (·.1) = false := by rfl) :
    PS X (.Raise (some (.Call (.Name x p) [a] [] pos)) none pos2) (fun _ σ H => tMkE C fld ta σ H fun cls d H' => W cls d σ H') := ps_raise hc tk (pmk_err T hms hr hk hg ha hdb he hpl)
end
end G
set_option Elab.async false
set_option linter.all false
set_option maxRecDepth 100000
set_option maxHeartbeats 4000000
namespace G
open PySem PySem.Spec PyProof.Rows L2
/-! ### several clauses, each with a name -/
abbrev Cls := Value × Nat × (Addr → Value → Option Addr → TS)
/-- behind a suite its name's slot is empty -/
def wiped (D : Ends) (i : Nat) : Ends := { nx := fun σ H => D.nx (σ.set i none) H, rt := D.rt, bk := fun σ H => D.bk (σ.set i none) H, ct := fun σ H => D.ct (σ.set i none) H }
def wNs (K : PySem.W.Frag) (out : WX) (D : Ends) : List Cls → WX
  | [] => out
  | (c, i, ts) :: more => fun cls d σ H => ∃ b, PySem.W.exmOne K cls c = some b ∧ (b = true → ∀ e, H e = none → ts e cls d (wiped D i) (σ.set i (some (.ref e))) H) ∧ (b = false → wNs K out D more cls d σ H)
inductive ClsOk (Y : Cx) : List ExceptHandler → List Cls → Prop
  | nil : ClsOk Y [] []
  | cons {x n : Str} {c : Value} {i : Nat} {ts : Addr → Value → Option Addr → TS} {st : Stmt} {sts : List Stmt} {p1 p2 : Pos} {hs : List ExceptHandler} {cs : List Cls} (hi : Y.N[i]? = some n) (hk : Y.env.kindOf n = some .local) (hc : Names Y x c)
      (hb : ∀ (e : Addr) (oe : Obj) (cls : Value) (d : Option Addr) (pn : List (Addr × Obj)), Zc cls d oe → (∃ fv, oe.data = .fields fv) → PSs (Y.suite e ((e, oe) :: pn)) (st :: sts) (ts e cls d)) (more : ClsOk Y hs cs) :
      ClsOk Y (.ExceptHandler (some (.Name x p1)) (some n) (st :: sts) p2 :: hs) ((c, i, ts) :: cs)
section
variable {Y : Cx} {body : List Stmt} {h0 : ExceptHandler} {hs : List ExceptHandler} {cs : List Cls} {pos : Pos} {tb : WX → TS} {out : WX}
theorem ps_try_named (hst : Y.stack = Y.env :: Y.outer) (hfr : Y.env.frame = some Y.env.locals) (hN : Y.N.Nodup) (tk : Takes Y out)
    (hb : ∀ (W : WX) (pn : List (Addr × Obj)) (xe : Value → Shared → Prop), Takes (Y.tr pn xe) W → PassesOwn (model Y.prog Y.w) Y.A Y.env xe → PSs (Y.tr pn xe) body (tb W))
    (hh : ClsOk Y (h0 :: hs) cs) : PS Y (.Try body (h0 :: hs) [] [] pos) fun D σ H => tb (wNs Y.K out D cs) D σ H := by
  refine ⟨fun pins z σ H D I h => ?_⟩
  have okY := I.ok
  have hframes : Y.A.frames = some (Y.env :: Y.outer) := by
    rw [okY.frames, hst]
  refine wpAny_Try_except (wpAny_mono ((hb (wNs Y.K out D cs) (Y.pn ++ pins) (fun er z1 => wpAny (model Y.prog Y.w) Y.A (noteFrame er Y.env) (fun _ z2 => wpAny (model Y.prog Y.w) Y.A (setFlight er none) (fun _ z3 =>
    wpAny (model Y.prog Y.w) Y.A (handleBy er Y.env (h0 :: hs)) (SP Y pins D) Y.xe z3) Y.xe z2) Y.xe z1) (fun u z' caught => ?_) PassesOwn.looking).run [] z σ H D (I.toTry _) h) (fun fl z1 fine => ?_) (fun er z1 out1 => out1))
  · obtain ⟨q, B, zI, pins', σ', H', cls, d, rfl, J', nb, up, sky, nq, hos, hag, want⟩ := caught
    have J : Inv Y pins σ' H' zI := J'.ofTry okY
    have skyY : Sky B (Y.env :: Y.outer) q (Zc cls d) Y.env.locals z'.heap := by
      rw [← hst]
      exact sky
    show wpAny (model Y.prog Y.w) Y.A (noteFrame (.ref q) Y.env) _ _ _
    refine Sky.land Zc.steady hframes hfr skyY fun hA fA upA => ?_
    have JA : Inv Y pins σ' H' { z' with heap := hA } := J.landed nb fA.1 (up.trans upA) hos hag
    obtain ⟨oA, fvA, qA, zA, dA⟩ := fA.there
    have off : q ∉ frs (Y.env :: Y.outer) := fun hm => by
      obtain ⟨_, o2, e2, hnf⟩ := fA.2.2.1.mem hm
      rw [qA] at e2
      cases e2
      exact hnf _ dA
    have offL : q ≠ Y.env.locals := fun e2 => off (List.mem_filterMap.mpr ⟨Y.env, List.mem_cons_self, by rw [hfr, e2]⟩)
    have offF : q ∉ Y.fs := fun hm => by
      obtain ⟨en, hen, e2⟩ := List.mem_filterMap.mp hm
      exact off (List.mem_filterMap.mpr ⟨en, List.mem_cons_of_mem _ hen, e2⟩)
    have SA := JA.suite qA dA nq offL offF
    have each : ∀ {hs' : List ExceptHandler} {cs' : List Cls}, ClsOk Y hs' cs' → wNs Y.K out D cs' cls d σ' H' → wpAny (model Y.prog Y.w) Y.A (handleBy (.ref q) Y.env hs') (SP Y pins D) Y.xe { z' with heap := hA } := by
      intro hs' cs' ok'
      induction ok' with
      | nil =>
        intro want'
        refine wpAny_handleBy_nil ?_
        obtain ⟨g1, g2, g3, oe, fv, tb', oT, ts', ge, gz, gd, g4, g5⟩ := id fA
        unfold PySem.passOn
        refine wpAny_bind (wpAny_field ge gd g4 ?_)
        rw [if_neg (show ¬ ((Value.ref tb' == Value.none) = true) from by simp)]
        have flies : wpAny (model Y.prog Y.w) Y.A (setFlight (.ref q) Y.env.frame) (fun _ z4 => wpAny (model Y.prog Y.w) Y.A (throw (.ref q) : Sem Flow) (SP Y pins D) Y.xe z4) Y.xe { z' with heap := hA } := by
          rw [hfr]
          refine HandSPX.setFlight_upZ fA fun hB fB upB => wpAny_throw (tk _ _ ⟨q, B, zI, pins, σ', H', cls, d, rfl, J, nb, (up.trans upA).trans upB, .inr (.inr (by rw [hst]; exact fB)), nq, hos, hag, want'⟩)
        first
          | exact wpAny_bind (wpAny_pure (wpAny_bind flies))
          | exact wpAny_bind flies
      | @cons x n c i ts st sts p1 p2 hs2 cs2 hi hk hc hsu more ih =>
        intro want'
        obtain ⟨b, is, yes, no⟩ := want'
        refine wpAny_handleBy_cons (codeAny_handlers_test ?_) (by intro e2; cases e2)
        have ty : PySem.W.Looks (model Y.prog Y.w) hA (typeOf (.ref q)) cls := fun A Q E s k e2 => wpAny_typeOf_ref (k _ _ qA) (by rw [zA.1]; exact e2)
        have asked := PySem.W.exm_one (M := model Y.prog Y.w) JA.kIn ty is
        have named : ∀ {Q : Value → Shared → Prop} {E : Value → Shared → Prop}, Q c { z' with heap := hA } → wpAny (model Y.prog Y.w) (Y.A.mark (some (.ref q))) (eval (.Name x p1) Y.env) Q E { z' with heap := hA } := by
          intro Q E e2
          obtain ⟨n1, n2, n3 | ⟨n3, n4, n5⟩⟩ := hc
          · exact ld_glob (X := Y.suite q ((q, oA) :: (Y.pn ++ pins))) SA n1 n3 e2 n2
          · exact ld_blt (X := Y.suite q ((q, oA) :: (Y.pn ++ pins))) SA n1 n3 n4 e2 n5 n2
        refine named (asked.here ?_)
        cases b with
        | true =>
          refine codeAny_handlers_suite_as (HandSPX.lands_againZ fA fun hB fB upB => ?_)
          have JB : Inv Y pins σ' H' { z' with heap := hB } := J.landed nb fB.1 ((up.trans upA).trans upB) hos hag
          obtain ⟨oB, fvB, qB, zB, dB⟩ := fB.there
          have SB := JB.suite qB dB nq offL offF
          refine store_ok (X := Y.suite q ((q, oB) :: (Y.pn ++ pins))) (v := .ref q) SB hN hi (.inl hk) rfl (fun z5 S5 => ?_) (.inr hk)
          refine wpAny_mono ((hsu q oB cls d (Y.pn ++ pins) zB ⟨_, dB⟩).run [] z5 _ H' _ S5 (yes rfl q nq)) (fun fl z6 told => ?_) (fun _ _ e2 => False.elim e2)
          have last : ∀ {σ6 : L2.St} {H6 : Hp} {Q : Shared → Prop}, Inv (Y.suite q ((q, oB) :: (Y.pn ++ pins))) [] σ6 H6 z6 → (∀ z7, Inv Y pins (σ6.set i none) H6 z7 → Q z7) →
              wpAny (model Y.prog Y.w) Y.A (do bindName Y.env n .none; unbindBehindTheSuite Y.env n p2) (fun _ z7 => Q z7) Y.xe z6 := fun {σ6 H6 Q} S6 go => gone_ok (S6.unsuite okY) hN hi hk go
          cases fl with
          | next =>
            obtain ⟨σ6, H6, S6, g6⟩ := told
            exact last S6 fun z7 J7 => ⟨_, _, J7, g6⟩
          | brk =>
            obtain ⟨σ6, H6, S6, g6⟩ := told
            exact last S6 fun z7 J7 => ⟨_, _, J7, g6⟩
          | cont =>
            obtain ⟨σ6, H6, S6, g6⟩ := told
            exact last S6 fun z7 J7 => ⟨_, _, J7, g6⟩
          | ret u =>
            obtain ⟨v6, σ6, H6, S6, r6, g6⟩ := told
            exact last S6 fun z7 J7 => ⟨_, _, _, J7, r6, g6⟩
        | false =>
          show wpAny _ Y.A (handleBy (.ref q) Y.env hs2) _ _ _
          exact ih (no rfl)
    exact each hh want
  · cases fl with
    | next =>
      obtain ⟨σ', H', J', g⟩ := fine
      exact wpAny_execs_nil ⟨σ', H', J'.ofTry okY, g⟩
    | brk =>
      obtain ⟨σ', H', J', g⟩ := fine
      exact ⟨σ', H', J'.ofTry okY, g⟩
    | cont =>
      obtain ⟨σ', H', J', g⟩ := fine
      exact ⟨σ', H', J'.ofTry okY, g⟩
    | ret u =>
      obtain ⟨v, σ', H', J', r, g⟩ := fine
      exact ⟨v, σ', H', J'.ofTry okY, r, g⟩
end
end G
set_option Elab.async false
set_option linter.all false
set_option maxRecDepth 100000
set_option maxHeartbeats 4000000
namespace G
open PySem PySem.Spec PySem.Calls PyProof.Rows L2
/-! ### isinstance of a caught error that has a dict -/
section
variable {prog : Program} {w : World} {A : Around} {E : Value → Shared → Prop} {s : Shared} {K : PySem.W.Frag} {x D : Addr} {ox ob : Obj}
theorem err_class {Q : Option Value → Shared → Prop} (C : ExcC K D) (kin : K.In s.heap) (I : PySem.W.InstAt s.heap x ox D (some ob)) (h : Q (some (.ref D)) { s with toks := s.toks + 1 }) :
    wpAny (model prog w) A (getAttr? (.ref x) "__class__") Q E s := by
  have cs : (PySem.W.clsIn K D).isSome = true := by
    obtain ⟨cd, hc, _⟩ := PySem.W.any_some C.hd
    rw [hc]
    rfl
  have fnd := PySem.W.findObj_data (od := ob) cs C.ha C.hn C.ht
  obtain ⟨hp, gs, dr, tk, os⟩ := s
  have a0 := I.type (M := model prog w)
  have a1 := PySem.W.looks_findIn (M := model prog w) kin C.hg
  have a2 := PySem.W.looks_findIn (M := model prog w) kin C.hk
  have a3 := PySem.W.looks_find (M := model prog w) kin I fnd
  have a4 : PySem.W.Looks (model prog w) hp (isInstance (.ref x) (.type "BaseException")) true := a0.andThen (PySem.W.looks_subIn kin C.hs)
  have b0 : (false && onTheHeap (Value.builtin "BaseException.__getattribute__")) = false := by rfl
  have b1 : (onTheHeap (Value.ref D) && Value.builtin "BaseException.__getattribute__" == Value.builtin "object.__getattribute__") = false := by
    rw [show (Value.builtin "BaseException.__getattribute__" == Value.builtin "object.__getattribute__") = false by decide +kernel]
    rfl
  have FA := PySem.F.excAttr_ValueError
  unfold getAttr? getAttrBy? getAttrBy
  refine wpAny_bind (wpAny_mkText (wpAny_bind (wpAny_attempt (wpAny_holding (wpAny_bind (a0.at (wpAny_bind (a1.at ?_))))))))
  show wpAny _ _ (if (onTheHeap (Value.ref D) && Value.builtin "BaseException.__getattribute__" == Value.builtin "object.__getattribute__") = true then _ else _) _ _ _
  rw [b1, if_neg Bool.false_ne_true]
  unfold getAttrByItsOwn hookBefore
  refine wpAny_bind ?_
  rw [if_pos (show onTheHeap (Value.ref D) = true by rfl)]
  refine a2.at (wpAny_bind (wpAny_attempt (wpAny_holding ?_)))
  unfold callGetattribute
  rw [b0, if_neg Bool.false_ne_true]
  unfold boundAndCalled
  rw [FA.ga.bind (.ref x)]
  refine wpAny_bind (wpAny_pure ?_)
  show wpAny _ _ (call (.builtin "BaseException.__getattribute__") [.ref x, .str "__class__" tk]) _ _ _
  refine wpAny_call (codeAny_call_builtin FA.ga.plain PySem.F.entry_bexc_ga ?_)
  refine @PySem.W.check_slot (model prog w) _ _ ⟨hp, gs, dr, tk + 1, os⟩ "BaseException.__getattribute__" "BaseException" "__getattribute__" (.ref x) [.str "__class__" tk] [] _ (by decide +kernel) (by decide +kernel) a4 (PySem.F.args_bexc_ga _ _) ?_
  unfold Builtin.«object.__getattribute__»
  refine wpAny_bind (wpAny_of_eq (a := ((Value.ref x : Value), [Value.str "__class__" tk])) (by first | rfl | (simp only [slotArgs]; rfl)) ?_)
  refine wpAny_bind (wpAny_pure (wpAny_bind (a0.at (wpAny_bind (a3.at ?_)))))
  show wpAny _ _ (holding [Value.builtin "object.__class__"] (call (.builtin "getset_descriptor.__get__") [.builtin "object.__class__", .ref x, .ref D]) >>= ret) _ _ _
  refine wpAny_bind (wpAny_holding (wpAny_call (PySem.W.class_get (s := ⟨hp, gs, dr, tk + 1, os⟩) (ox := ox) (od := some ob) kin I C.hm ?_)))
  refine wpAny_pure ?_
  show wpAny _ _ (handedOut (.ref D)) _ _ _
  rw [PySem.W.handedOut_of (v := .ref D) rfl]
  first
    | exact wpAny_pure (wpAny_pure h)
    | exact wpAny_pure h
    | exact wpAny_pure (wpAny_bind (wpAny_pure (wpAny_pure h)))
theorem err_kit (C : ExcC K D) : PySem.W.KitX K (.ref x) (.ref D) (fun h => ∃ ob, PySem.W.InstAt h x ox D (some ob)) where
  ty := fun _ _ _ ⟨_, I⟩ => I.type
  it := fun _ _ kin _ => by
    obtain ⟨cd, hc, _⟩ := PySem.W.any_some C.hd
    unfold PySem.W.clsIn at hc
    split at hc
    · rename_i g1 g2 g3 g4 ho
      intro A' Q' E' s' k q
      unfold isType loadHead
      exact wpAny_bind (wpAny_loadPart (k _ _ (kin _ _ ho)) (wpAny_pure q))
    · exact nomatch hc
  ne := fun h tp dd its n sl kin htp => by
    obtain ⟨cd, hc, _⟩ := PySem.W.any_some C.hd
    refine Bool.eq_false_iff.mpr fun q => ?_
    obtain rfl : D = tp := Value.ref.inj (beq_iff_eq.mp q)
    unfold PySem.W.clsIn at hc
    split at hc
    · rename_i g1 g2 g3 g4 ho
      exact nomatch (kin _ _ ho).symm.trans htp
    · exact nomatch hc
  ca := fun kin ⟨_, I⟩ k => err_class C kin I k
end
/-- isinstance(e, c): e the error that the suite holds, its dict at dd -/
theorem call_isD {X : Cx} {a D dd : Addr} {oe : Obj} {cls : Value} {d : Option Addr} {pn : List (Addr × Obj)} (C : ExcC X.K D) (hz : Zc cls d oe) (hf : ∃ fv, oe.data = .fields fv) :
    CallR (X.suite a ((a, oe) :: pn)) (.builtin "isinstance") (fun xs H Q => cls = .ref D ∧ ∃ (dd : Addr) (fs : List (Str × V)), d = some dd ∧ H dd = some (.xd fs) ∧ rIsE X.K D a xs H Q) := by
  intro pins s σ H xs us Q I r h
  obtain ⟨rfl, dd, fs, rfl, ea, c, cv, b, rfl, hcv, e, q⟩ := h
  cases r with
  | cons rx rr =>
    cases rr with
    | cons rt rr =>
      cases rr
      cases rx
      obtain rfl := hcv _ rt
      obtain ⟨hget, _⟩ := I.pin (a, oe) (List.mem_append.mpr (.inl List.mem_cons_self))
      obtain ⟨fv, hv⟩ := hf
      obtain ⟨mA, hns, _⟩ := (show ObjOk X.prog X.w H s.heap dd (.xd fs) from I.hok dd _ ea)
      obtain ⟨od, ho, _⟩ := lookIn_ns hns
      have J : PySem.W.InstAt s.heap a oe D (some od) := ⟨hget, hz.1, by unfold PySem.W.notCls; rw [hv] <;> rfl, by rw [hz.2]; exact ho⟩
      exact PySem.W.kia_one (err_kit C) I.kIn ⟨od, J⟩ e (fun z => nomatch z) fun tk => ⟨.bl b, H, I.kept (t' := tk) fun _ _ z => z, rfl, q⟩
end G
set_option Elab.async false
set_option linter.all false
set_option maxRecDepth 100000
set_option maxHeartbeats 4000000
namespace G
open PySem PySem.Spec PyProof.Rows L2
/-! ### defs that may raise -/
section
variable {P : Program} {w : World} {K : PySem.W.Frag} {mg : Str → Option Value} {base : Heap}
theorem cal_ofX {x : Str} {st : Stmt} {f : Addr} {fd : FuncData} {N ps : List Str} {k : Nat} {sp : Sp} (F : Dfn K mg x st f fd) (S : FnScope N ps (defScope st))
    (hbd : ∀ (kV doc pm : Value) (an : Option Addr) (cdv ct : Value) (us : List Value), us.length = ps.length → bindArgs (PySem.W.fnOf x x (defArgs st) (defBody st) (defScope st) .none kV doc pm an cdv ct) ⟨us, []⟩ = pure (ps.zip us))
    (len : ∀ vs H Q E, sp vs H Q E → vs.length = ps.length)
    (hb : ∀ (cdv : Value) (A : Around) (o : List Env) (s : Shared) (H : Hp) (vs : List V) (Q : VK) (E : XK), A.guards = some [] → Room k (A.deeper (PyProof.Rows.envOfC x (defScope st) s.heap.objs.size f cdv)) → sp vs H Q E →
      ∃ t, PSs (cxOf (L2.CX P w) P w K mg base N x (defScope st) f cdv A o s H E) (defBody st) t ∧ t { nx := fun _ H1 => Q .non H1, rt := Q } (L2.start N vs) H) : Cal P w K mg base (L2.CX P w) (k + 1) x sp := by
  obtain ⟨oc, od, kV, doc, pm, an, cdv, ct, osl, rfl, lk, hcd⟩ := F.fn.ex
  exact ⟨f, _, ps, fnG_of lk hcd S len fun A o s H vs Q E g r h => hb cdv A o s H vs Q E g r h, F.mgf, F.fn.kp, Binds.all (hbd kV doc pm an cdv ct)⟩
end
section
variable {X : Cx} {k j : Nat} {x : Str} {sp : Sp} {p pos : Pos} {e : Expr} {es : List Expr} {t : TA} {W : WX}
theorem run_GS {pins : List (Addr × Obj)} {σ : L2.St} {H : Hp} {s : Shared} {Q : VK} {us : List Value} {vs : List V} {f : Addr} {fd : FuncData} {ps : List Str} (F : FnG X.prog X.w X.K X.mg X.base (L2.CX X.prog X.w) k f fd ps sp) (g : X.A.guards = some []) (hr : Room k X.A)
    (hb : Binds X.K fd ps []) (tk : Takes X W) (I : Inv X pins σ H s) (r : Vals vs us) (h : sp vs H Q (WE W σ)) : wpAny (model X.prog X.w) X.A (call (.ref f) us) (EP X pins σ Q) X.xe s := by
  have hl : (us ++ []).length = ps.length := by
    rw [List.append_nil, ← r.length]
    exact F.len _ _ _ _ h
  have b := hb s us I.kIn hl
  rw [List.append_nil] at b
  refine wpAny_call (codeAny_mono (F.go X.A X.stack s H ⟨us, []⟩ us vs Q (WE W σ) g hr I.env0 b r h) ?_)
  intro z s' q
  match z, q with
  | .error e, q => exact passAt tk σ pins H s e s' I q
  | .ok (.ret u), q => exact I.after q
  | .ok .next, q => exact q.elim
  | .ok .brk, q => exact q.elim
  | .ok .cont, q => exact q.elim
/-- f(e, ..), f may raise -/
theorem pe_gS (c : Cal X.prog X.w X.K X.mg X.base (L2.CX X.prog X.w) k x sp) (g : X.A.guards = some []) (hr : Room j X.A) (hk : k ≤ j) (hgl : Gl X x) (tk : Takes X W) (ha : PA X (e :: es) t)
    (hdb : (x == ("__debug__" : Str)) = false := by decide) (he : starEach (e :: es) X.env = (false, eval e X.env) :: starEach es X.env := by rfl) (hpl : (backTo pos (starEach es X.env)).any (·.1) = false := by rfl) :
    PE X (.Call (.Name x p) (e :: es) [] pos) (tCallS sp (WE W) t) := by
  obtain ⟨f, fd, ps, F, hm, kp, b⟩ := c.ex
  constructor
  intro pins s σ H Q I h
  refine wpAny_Call_Name_kw (ld_glob I hgl hm ?_ hdb)
  refine PySem.W.callWith_K (h₀ := X.base) I.ok.mod.kin kp ?_ he hpl
  refine thn (ha.run pos pins s σ H _ I h) ?_
  rintro us s1 ⟨vs, H1, I1, r, q⟩
  exact ⟨I1.kIn, run_GS F g (hr.mono hk) b tk I1 r q⟩
end
variable {sp : Sp} {EW : L2.St → XK} {ar : TA} {σ : L2.St} {H : Hp} {Q : VK}
theorem c_callS (k : ar σ H fun vs H1 => sp vs H1 Q (EW σ)) : tCallS sp EW ar σ H Q := k
theorem c_mkE {C : Addr} {fld : Str} {ta : TA} {Qx : XK} (k : ta σ H fun vs H1 => ∃ v, vs = [v] ∧ ∀ d, H1 d = none → Qx (.ref C) (some d) (upd H1 d (.xd [(fld, v)]))) : tMkE C fld ta σ H Qx := k
/-- a statement that is never reached -/
def tNo : TS := fun _ _ _ => False
theorem ps_no {X : Cx} {st : Stmt} : PS X st tNo := ⟨fun _ _ _ _ _ _ h => h.elim⟩
end G
set_option Elab.async false
set_option linter.all false
set_option maxRecDepth 100000
set_option maxHeartbeats 4000000
namespace G
open PySem PySem.Spec PyProof.Rows L2
/-! ### own errors over any built-in one, with any number of fields -/
section
variable {prog : Program} {w : World} {A : Around} {R : Result → Shared → Prop} {hp : Heap} {g : Array GenState} {d : Drawn} {t : Nat} {os : OsState} {K : PySem.W.Frag} {name : Str} {tk : Tok} {v : Value} {x C dx : Addr} {fv : Array Value} {cd : ClassData}
theorem osa_at {ox : Obj} {od : Option Obj} (X : K.In hp) (I : PySem.W.InstAt hp x ox C od) (hcd : PySem.W.clsIn K C = some cd) (hob : PySem.W.mroIn K C (.type "object") = some true) (hpass : refuseLoop (.ref x) "__setattr__" cd.mro = pure ()) (ha : PySem.W.findIn K (.ref C) name = some none)
    (hq : wpAny (model prog w) A.in1 (Builtin.ObjectAttr.storeInOwnDict (.ref x) (.ref C) (.str name tk) name v false)
      (fun fin s' => match fin with
        | .done f => R (.ok f) s'
        | .again c' => c'.quiet = true ∧ codeAny (model prog w) A c' R s') (fun e s' => R (.error e) s') ⟨hp, g, d, t, os⟩) :
    codeAny (model prog w) A (.call (.builtin "object.__setattr__") ⟨[.ref x, .str name tk, v], []⟩) R ⟨hp, g, d, t, os⟩ := by
  have SF := PySem.F.store_object
  have sub : PySem.W.Looks (model prog w) hp (isInstance (.ref x) (.type "object")) true := (I.type (M := model prog w)).andThen (PySem.W.looks_mroIn (M := model prog w) X hob)
  refine codeAny_call_builtin SF.slot.plain SF.entry ?_
  refine @PySem.W.check_slot (model prog w) A.in1 _ ⟨hp, g, d, t, os⟩ "object.__setattr__" "object" "__setattr__" (.ref x) [.str name tk, v] [] _ SF.kind SF.split sub (SF.args (.ref x) (.str name tk) v) ?_
  have hmr : PySem.W.Looks (model prog w) hp (mroOf (.ref C)) cd.mro := (PySem.W.looks_clsIn (M := model prog w) X hcd).andThen PySem.W.Looks.now
  rw [PySem.W.osa_eq (.ref x) v name tk, refuse_eq (.ref x) "__setattr__"]
  refine wpAny_bind (wpAny_bind (I.type.at (wpAny_bind (hmr.at ?_))))
  rw [hpass]
  exact wpAny_pure (wpAny_bind (I.type.at (wpAny_bind ((PySem.W.looks_findIn X ha).at (wpAny_bind (PySem.W.Looks.now.at hq))))))
theorem osa_new (X : K.In hp) (hx : hp.get? x = some { cls := .ref C, data := .fields fv }) (hcd : PySem.W.clsIn K C = some cd) (hob : PySem.W.mroIn K C (.type "object") = some true) (hpass : refuseLoop (.ref x) "__setattr__" cd.mro = pure ()) (hh : cd.hasDict = true) (ha : PySem.W.findIn K (.ref C) name = some none)
    (hq : ∀ (h' : Heap) (tk' dx : Nat), (∀ (b : Addr) (o : Obj), b ≠ x → hp.get? b = some o → h'.get? b = some o) → hp.objs.size ≤ dx → dx ≠ x → h'.get? x = some { cls := .ref C, dict := some dx, data := .fields fv } → (h'.Ns1 dx fun y => if y = name then some v else none) → R (.ok (.ret .none)) ⟨h', g, d, tk', os⟩) :
    codeAny (model prog w) A (.call (.builtin "object.__setattr__") ⟨[.ref x, .str name tk, v], []⟩) R ⟨hp, g, d, t, os⟩ := by
  have I : PySem.W.InstAt hp x { cls := .ref C, data := .fields fv } C none := ⟨hx, rfl, rfl, trivial⟩
  have hxs := Nat.ne_of_lt (Heap.lt_size hx)
  refine osa_at X I hcd hob hpass ha ?_
  have hcls := PySem.W.looks_clsIn (M := model prog w) X hcd
  obtain ⟨nm, bs, mro, ns, qn, hd, sn, sb, ab, col, del⟩ := cd
  cases hh
  unfold Builtin.ObjectAttr.storeInOwnDict
  refine wpAny_bind ?_
  show wpAny _ _ (pure ()) _ _ _
  refine wpAny_pure (wpAny_ite_false (by rfl) (wpAny_bind ?_))
  unfold Builtin.ObjectAttr.ownDictForStores
  refine wpAny_bind (wpAny_loadPart_at hx (wpAny_bind (hcls.at (wpAny_ite_false (by rfl) (wpAny_ite_false (by rfl) (wpAny_bind (wpAny_alloc' (wpAny_bind (wpAny_update' (Heap.get?_push_of_some _ hx) ?_))))))))) 
  refine wpAny_pure (PySem.HandSPX.store_in_new ?_ fun h' tk' hn' hs => ?_)
  · exact ⟨{ cls := .type "dict", data := .dict #[] }, #[], 0, (Heap.get?_update_ne _ _ _ _ hxs.symm).trans (Heap.get?_push_at rfl rfl), rfl, fun e he => absurd he (by simp), fun _ => rfl⟩
  · have hx₁ := Heap.get?_push_of_some { cls := .type "dict", data := .dict #[] } hx
    refine hq h' tk' hp.objs.size (fun b o hb ho => (hs.right b (Nat.ne_of_lt (Heap.lt_size ho))).trans ((Heap.get?_update_ne _ _ _ _ hb).trans (Heap.get?_push_of_some _ ho))) (Nat.le_refl _) hxs.symm ((hs.right x hxs).trans (Heap.get?_update_self _ hx₁ rfl)) hn'
theorem osa_old {m0 : Str → Option Value} {nl : List Str} (X : K.In hp) (hx : hp.get? x = some { cls := .ref C, dict := some dx, data := .fields fv }) (hns : hp.Ns1 dx m0) (hw : Within m0 nl) (hz : nl.length ≤ 1000) (hcd : PySem.W.clsIn K C = some cd) (hob : PySem.W.mroIn K C (.type "object") = some true) (hpass : refuseLoop (.ref x) "__setattr__" cd.mro = pure ()) (hh : cd.hasDict = true) (ha : PySem.W.findIn K (.ref C) name = some none)
    (hq : ∀ (h' : Heap) (tk' : Nat), (∀ (b : Addr) (o : Obj), b ≠ dx → hp.get? b = some o → h'.get? b = some o) → (h'.Ns1 dx fun y => if y = name then some v else m0 y) → R (.ok (.ret .none)) ⟨h', g, d, tk', os⟩) :
    codeAny (model prog w) A (.call (.builtin "object.__setattr__") ⟨[.ref x, .str name tk, v], []⟩) R ⟨hp, g, d, t, os⟩ := by
  obtain ⟨oD, esD, epD, hoD, hdD, _⟩ := Heap.Ns1.count hns hw
  have I : PySem.W.InstAt hp x { cls := .ref C, dict := some dx, data := .fields fv } C (some oD) := ⟨hx, rfl, rfl, hoD⟩
  refine osa_at X I hcd hob hpass ha ?_
  have hcls := PySem.W.looks_clsIn (M := model prog w) X hcd
  obtain ⟨nm, bs, mro, ns, qn, hd, sn, sb, ab, col, del⟩ := cd
  cases hh
  unfold Builtin.ObjectAttr.storeInOwnDict
  refine wpAny_bind ?_
  show wpAny _ _ (pure ()) _ _ _
  refine wpAny_pure (wpAny_ite_false (by rfl) (wpAny_bind ?_))
  unfold Builtin.ObjectAttr.ownDictForStores
  refine wpAny_bind (wpAny_loadPart_at hx (wpAny_bind (hcls.at (wpAny_ite_false (by rfl) ?_))))
  exact wpAny_pure (PySem.ESX.store_in_old hns hw hz fun h' tk' hn' hs => hq h' tk' (fun b o hb ho => (hs.right b hb).trans ho) hn')
end
def eArgs (flds : List Str) (p1 : Pos) (ps : List Pos) : Arguments where
  posonlyargs := []
  args := ⟨"self", none, p1⟩ :: List.zipWith (fun f p => ⟨f, none, p⟩) flds ps
  vararg := none
  kwonlyargs := []
  kw_defaults := []
  kwarg := none
  defaults := []
structure QP where
  a : Pos
  b : Pos
  c : Pos
  d : Pos
def eStore (f : Str) (q : QP) : Stmt := .Assign [.Attribute (.Name "self" q.a) f q.b] (.Name f q.c) q.d
def eBody (flds : List Str) (msg : Str) (j : Nat) (p0 p1 p2 p3 p4 p5 : Pos) (qs : List QP) : List Stmt :=
  .Expr (.Call (.Attribute (.Call (.Name "super" p0) [] [] p1) "__init__" p2) [.Constant (.str msg) j p3] [] p4) p5 :: List.zipWith eStore flds qs
def eScope (flds : List Str) : Scope where
  kind := .function
  names := (("self" : Str), NameKind.local) :: (flds.map (fun f => (f, NameKind.local)) ++ [(("__class__" : Str), NameKind.free), (("super" : Str), NameKind.globalImplicit)])
  isGenerator := false
  isCoroutine := false
  more := []
theorem look_skip {α : Type} {y : Str} {l r : List (Str × α)} (h : y ∉ l.map (·.1)) : (l ++ r).lookup y = r.lookup y := by
  induction l with
  | nil => rfl
  | cons p l ih =>
    simp only [List.map_cons, List.mem_cons, not_or] at h
    have e : (y == p.1) = false := beq_false_of_ne h.1
    simp only [List.cons_append, List.lookup, e]
    exact ih h.2
theorem look_in {α : Type} {y : Str} {v : α} {l : List (Str × α)} (nd : (l.map (·.1)).Nodup) (h : (y, v) ∈ l) : l.lookup y = some v := by
  induction l with
  | nil => cases h
  | cons p l ih =>
    simp only [List.map_cons, List.nodup_cons] at nd
    rcases List.mem_cons.mp h with h | h
    · subst h
      simp [List.lookup]
    · have ne : y ≠ p.1 := by
        rintro rfl
        exact nd.1 (List.mem_map.mpr ⟨_, h, rfl⟩)
      have e : (y == p.1) = false := beq_false_of_ne ne
      simp only [List.lookup, e]
      exact ih nd.2 h
theorem look_none {α : Type} {y : Str} {l : List (Str × α)} (h : y ∉ l.map (·.1)) : l.lookup y = none := by
  have := look_skip (r := []) h
  rw [List.append_nil] at this
  exact this
theorem nd_rev {α : Type} {l : List α} (h : l.Nodup) : l.reverse.Nodup := by
  unfold List.Nodup at *
  rw [List.pairwise_reverse]
  exact h.imp fun z => z.symm
theorem look_rev {α : Type} {y : Str} {v : α} {l : List (Str × α)} (nd : (l.map (·.1)).Nodup) (h : (y, v) ∈ l) : l.reverse.lookup y = some v := by
  refine look_in ?_ (List.mem_reverse.mpr h)
  rw [List.map_reverse]
  exact nd_rev nd
section
variable {flds : List Str}
theorem esc_self : (eScope flds).names.lookup ("self" : Str) = some .local := by
  unfold eScope
  simp [List.lookup]
theorem esc_fld {f : Str} (hf : f ∈ flds) : (eScope flds).names.lookup f = some .local := by
  unfold eScope
  by_cases e : f = "self"
  · subst e
    simp [List.lookup]
  · have e : (f == ("self" : Str)) = false := beq_false_of_ne e
    simp only [List.lookup, e]
    induction flds with
    | nil => cases hf
    | cons g r ih =>
      by_cases e2 : f = g
      · subst e2
        simp [List.lookup]
      · have e3 : (f == g) = false := beq_false_of_ne e2
        simp only [List.map_cons, List.cons_append, List.lookup, e3]
        exact ih ((List.mem_cons.mp hf).resolve_left e2)
theorem esc_more {y : Str} (h1 : y ≠ "self") (hf : y ∉ flds) : (eScope flds).names.lookup y = List.lookup y [(("__class__" : Str), NameKind.free), ("super", .globalImplicit)] := by
  unfold eScope
  have e : (y == ("self" : Str)) = false := beq_false_of_ne h1
  simp only [List.lookup, e]
  exact look_skip (by rw [List.map_map]; simpa [Function.comp_def] using hf)
end
/-- what the written part says of such a class, at C -/
structure ErrG (prog : Program) (K : PySem.W.Frag) (flds : List Str) (C : Addr) : Prop where
  cls : ∃ (B newId initId : String) (bmB : List Value), ExcBaseFacts B newId initId bmB ∧ PySem.W.KxsFacts B initId ∧ (∀ self, refuseLoop self "__setattr__" bmB = pure ()) ∧ initId.startsWith "lifetime." = false ∧ PySem.W.subIn K (.ref C) (.type B) = some true ∧
    ∃ (nm q : Str) (N : Addr) (bs : List Value) (rs : List Addr) (sn : List Str) (sub : List Value) (ab : Bool) (col : Option Bool) (dd : Option Addr) (k0 k1 k2 k3 k5 : Option Value), K.lookup C = some (excClassObj nm q C N bs (rs.map Value.ref ++ bmB) true sn sub ab col dd k0 k1 k2 k3 k5 newId) ∧ PySem.W.alongIn K "__init__" (rs.map Value.ref ++ bmB) = some (some (.builtin initId))
  sa : PySem.W.findIn K (.ref C) "__setattr__" = some (some (.builtin "object.__setattr__"))
  noN : ∀ f ∈ flds, PySem.W.findIn K (.ref C) f = some none
  hob : PySem.W.mroIn K C (.type "object") = some true
  fn : ∃ (fI : Addr) (oc : Value) (od : Option Addr) (osl : Array (Option Value)) (qual : Str) (doc pm : Value) (an : Option Addr) (cda cc : Addr) (ct : Value) (msg : Str) (j : Nat) (p1 : Pos) (ps : List Pos) (r0 r1 r2 r3 r4 r5 : Pos) (qs : List QP),
    ps.length = flds.length ∧ qs.length = flds.length ∧ eM msg j r0 r1 r2 r3 r4 ∧ PySem.W.findIn K (.ref C) "__init__" = some (some (.ref fI)) ∧ PySem.W.typeIn K (.ref fI) = some (.type "function") ∧
    K.lookup fI = some ⟨oc, od, .func (PySem.W.ksFn "__init__" qual (eArgs flds p1 ps) (eBody flds msg j r0 r1 r2 r3 r4 r5 qs) (eScope flds) .none .none doc pm an (.ref cda) ct cc), osl⟩ ∧ PySem.W.codeIn K (.ref cda) qual = true ∧
    (∃ cl dd vs sl file tf, K.lookup cda = some ⟨cl, dd, .fields vs, sl⟩ ∧ vs[2]? = some (.str file tf) ∧ ((prog.main.file : Str) == file) = true) ∧ (∃ cl dd sl, K.lookup cc = some ⟨cl, dd, .cell (some (.ref C)), sl⟩) ∧
    ∀ (a : Value) (us : List Value), us.length = flds.length → bindArgs (PySem.W.ksFn "__init__" qual (eArgs flds p1 ps) (eBody flds msg j r0 r1 r2 r3 r4 r5 qs) (eScope flds) .none .none doc pm an (.ref cda) ct cc) ⟨a :: us, []⟩ = pure ((("self" : Str), a) :: flds.zip us)
  opq : PySem.W.nsIn K cStatics "thirdparty.any" = some none
  top : (prog.main.scope.names.lookup ("super" : Str)).isSome = false
  nd : (("self" : Str) :: "__class__" :: "super" :: flds).Nodup
  few : flds.length ≤ 100
  db : ("__debug__" : Str) ∉ flds
theorem refuse_refs {self : Value} {what : Str} {bmB : List Value} (h : refuseLoop self what bmB = pure ()) : ∀ rs : List Addr, refuseLoop self what (rs.map Value.ref ++ bmB) = pure ()
  | [] => h
  | c :: r => by
    show refuseLoop self what (Value.ref c :: (r.map Value.ref ++ bmB)) = pure ()
    rw [refuseLoop_ref]
    exact refuse_refs h r
theorem refs_contains {bmB : List Value} (Y : String) : ∀ rs : List Addr, (rs.map Value.ref ++ bmB).contains (.type Y) = bmB.contains (.type Y)
  | [] => rfl
  | c :: r => by
    have : (Value.type Y == Value.ref c) = false := by simp
    show (Value.ref c :: (r.map Value.ref ++ bmB)).contains (.type Y) = _
    rw [List.contains_cons, this, Bool.false_or]
    exact refs_contains Y r
section
variable {prog : Program} {w : World} {A : Around} {R : Result → Shared → Prop} {s : Shared} {K : PySem.W.Frag} {mg mb : Str → Option Value} {C : Addr} {flds : List Str}
/-- the bound __init__ of the built-in error is called -/
theorem xe_bound {B newId initId : String} {bmB : List Value} (FB : ExcBaseFacts B newId initId bmB) (hqi : initId.startsWith "lifetime." = false) {E : Value → Shared → Prop} {h : Heap} {gs : Array GenState} {dr : Drawn} {tk : Nat} {os : OsState} {nm q : Str} {N : Addr} {bs bm : List Value} {hd : Bool} {sn : List Str} {sub : List Value} {ab : Bool} {col : Option Bool} {dd : Option Addr} {k0 k1 k2 k3 k5 : Option Value} {u x t0 : Addr} {us : List Value} {Q : Value → Shared → Prop}
    (hC : h.get? C = some (excClassObj nm q C N bs bm hd sn sub ab col dd k0 k1 k2 k3 k5 newId)) (hx : h.get? x = some (eO C t0 none)) (hu : h.get? u = some (PySem.W.kxs_mw initId x)) (hl : us.length ≤ sizeLine)
    (hq : ∀ h' t1, (∀ b o, b ≠ x → h.get? b = some o → h'.get? b = some o) → h'.get? x = some (eO C t1 none) → Q .none ⟨h', gs, dr, tk, os⟩) :
    wpAny (model prog w) A (call (.ref u) us) Q E ⟨h, gs, dr, tk, os⟩ := by
  have tw : (Value.type "method-wrapper" == Value.type "method" || Value.type "method-wrapper" == Value.type "builtin_function_or_method" || Value.type "method-wrapper" == Value.type "method-wrapper") = true := by
    decide
  refine wpAny_call (codeAny_of_tree ?_)
  show wpAny _ (Around.in1 A) (callAny (.ref u) ⟨us, []⟩) _ _ _
  unfold callAny
  refine wpAny_bind (wpAny_load hu ?_)
  simp only [PySem.W.kxs_mw, tw, if_true]
  refine PySem.W.KFB.if_so (by decide) (wpAny_bind (PySem.ESX.check_bound FB hC hx rfl (wpAny_bind (wpAny_pure (wpAny_pure ⟨Code.quiet_builtin _ ?q, codeAny_builtin FB.initEntry ?_⟩)))))
  case q => exact hqi
  rw [Around.under_plainId FB.init.plain _]
  wp_walk
  refine hq _ (Heap.objs h).size (fun b o hb e => ?_) ?_
  · rw [Heap.get?_update_other _ _ fun z => hb z.symm]
    exact Heap.get?_push_of_some _ e
  · rw [Heap.get?_update_self _ (Heap.get?_push_of_some _ hx) rfl]
    rfl
/-- how the error stands behind its __init__ -/
structure ErrAtG (h h' : Heap) (x C dx : Addr) (fs : List (Str × Value)) : Prop where
  keep : ∀ b o, b ≠ x → h.get? b = some o → h'.get? b = some o
  obj : ∃ t1, h'.get? x = some (eO C t1 (some dx))
  far : h.objs.size ≤ dx
  ne : dx ≠ x
  ns : h'.Ns1 dx fun y => fs.lookup y
theorem zip_keys {us : List Value} (h : us.length = flds.length) : (flds.zip us).map (·.1) = flds := by
  have : (flds.zip us).map Prod.fst = flds := List.map_fst_zip (by omega)
  exact this
theorem ErrG.nd1 (T : ErrG prog K flds C) : (("self" : Str) :: flds).Nodup := by
  have h := T.nd
  simp only [List.nodup_cons, List.mem_cons, not_or] at h ⊢
  exact ⟨h.1.2.2, h.2.2.2⟩
theorem ErrG.nd2 (T : ErrG prog K flds C) : flds.Nodup := (List.nodup_cons.mp T.nd1).2
theorem self_at (T : ErrG prog K flds C) {us : List Value} {x : Value} (h : us.length = flds.length) : ((("self" : Str), x) :: flds.zip us).reverse.lookup ("self" : Str) = some x := by
  refine look_rev ?_ List.mem_cons_self
  rw [List.map_cons, zip_keys h]
  exact T.nd1
theorem fld_at (T : ErrG prog K flds C) {us : List Value} {x v : Value} {f : Str} (h : us.length = flds.length) (m : (f, v) ∈ flds.zip us) : ((("self" : Str), x) :: flds.zip us).reverse.lookup f = some v := by
  refine look_rev ?_ (List.mem_cons_of_mem _ m)
  rw [List.map_cons, zip_keys h]
  exact T.nd1
theorem look_step {α : Type} {l : List (Str × α)} {n : Nat} (nd : (l.map (·.1)).Nodup) (h : n < l.length) (y : Str) : (if y = l[n].1 then some l[n].2 else (l.take n).lookup y) = (l.take (n + 1)).lookup y := by
  have e : l.take (n + 1) = l.take n ++ [l[n]] := by rw [List.take_append_getElem]
  rw [e]
  split
  · rename_i z
    rw [look_skip]
    · subst z
      simp [List.lookup]
    · intro m
      obtain ⟨p, hp, hz⟩ := List.mem_map.mp m
      obtain ⟨i, hi, hpi⟩ := List.mem_iff_getElem.mp hp
      rw [List.length_take] at hi
      rw [List.getElem_take] at hpi
      have h1 : (l.map (·.1))[i]'(by rw [List.length_map]; omega) = (l.map (·.1))[n]'(by rw [List.length_map]; exact h) := by
        rw [List.getElem_map, List.getElem_map, hpi, hz, z]
      have h2 := (List.getElem_inj nd).mp h1
      omega
  · rename_i z
    by_cases m : y ∈ (l.take n).map (·.1)
    · obtain ⟨p, hp, hz⟩ := List.mem_map.mp m
      have nd1 : ((l.take n).map (·.1)).Nodup := by
        rw [List.map_take]
        exact nd.sublist (List.take_sublist _ _)
      have nd2 : ((l.take n ++ [l[n]]).map (·.1)).Nodup := by
        rw [← e, List.map_take]
        exact nd.sublist (List.take_sublist _ _)
      rw [look_in (v := p.2) nd1 (by rw [← hz]; exact hp), look_in (v := p.2) nd2 (by rw [← hz]; exact List.mem_append.mpr (.inl hp))]
    · have e2 : (y == l[n].1) = false := beq_false_of_ne z
      rw [look_skip m, look_none m]
      simp [List.lookup, e2]
/-- the stores behind the first one -/
theorem err_stores (T : ErrG prog K flds C) {fd : FuncData} {L fI : Addr} {x : Addr} {us : List Value} {cd : ClassData} (hsc : fd.scope = eScope flds) (hcl : PySem.W.clsIn K C = some cd) (hh : cd.hasDict = true) (hpass : refuseLoop (.ref x) "__setattr__" cd.mro = pure ()) (hnx : K.lookup x = none) {t1 dx : Addr} (hLx : L ≠ x) (hLd : dx ≠ L) (hdx : dx ≠ x) (hul : us.length = flds.length) {E : Value → Shared → Prop} {Q : Flow → Shared → Prop} :
    ∀ (n : Nat) (qs : List QP) (s : Shared), n ≤ flds.length → qs.length = flds.length - n → K.lookup dx = none → K.In s.heap → (s.heap.Ns L fun y => ((("self" : Str), Value.ref x) :: flds.zip us).reverse.lookup y) → s.heap.get? x = some (eO C t1 (some dx)) → (s.heap.Ns1 dx fun y => ((flds.zip us).take n).lookup y) →
      (∀ h' tk, (∀ b o, b ≠ dx → s.heap.get? b = some o → h'.get? b = some o) → (h'.Ns1 dx fun y => (flds.zip us).lookup y) → Q .next { s with heap := h', toks := tk }) →
      wpAny (model prog w) A (execs (List.zipWith eStore (flds.drop n) qs) (callEnv fd L fI)) Q E s := by
  intro n qs
  induction qs generalizing n with
  | nil =>
    intro s hn hq hd kin hl hx hns q
    have e : n = flds.length := by
      simp only [List.length_nil] at hq
      omega
    subst e
    rw [List.drop_length]
    refine wpAny_execs_nil ?_
    obtain ⟨hp, gs, dr, tk, os⟩ := s
    refine q hp tk (fun _ _ _ z => z) ?_
    have e : (flds.zip us).take flds.length = flds.zip us := List.take_of_length_le (by rw [List.length_zip]; omega)
    rw [e] at hns
    exact hns
  | cons q0 qs ih =>
    intro s hn hq hd kin hl hx hns q
    have h1 : n < flds.length := by
      simp only [List.length_cons] at hq
      omega
    have hzl : n < (flds.zip us).length := by
      rw [List.length_zip]
      omega
    have hz : (flds.zip us)[n] = (flds[n], us[n]'(by omega)) := List.getElem_zip
    rw [List.drop_eq_getElem_cons h1]
    show wpAny _ _ (execs (.Assign [.Attribute (.Name "self" q0.a) flds[n] q0.b] (.Name flds[n] q0.c) q0.d :: List.zipWith eStore (flds.drop (n + 1)) qs) _) _ _ _
    have kf : (callEnv fd L fI).scope.kind = .function := by
      show fd.scope.kind = _
      rw [hsc]
      rfl
    have k1 : (callEnv fd L fI).kindOf flds[n] = some .local := by
      show fd.scope.names.lookup _ = _
      rw [hsc]
      exact esc_fld (List.getElem_mem _)
    have k2 : (callEnv fd L fI).kindOf "self" = some .local := by
      show fd.scope.names.lookup _ = _
      rw [hsc]
      exact esc_self
    have ndb : (flds[n] == ("__debug__" : Str)) = false := beq_false_of_ne fun z => T.db (z ▸ List.getElem_mem _)
    refine wpAny_execs_cons (plainObj_wpAny_Assign_Attribute ?_)
    refine wpAny_Name (wpAny_loadName_local kf k1 hl (v := us[n]'(by omega)) (fld_at T hul (by rw [← hz]; exact List.getElem_mem _)) (wpAny_Name (wpAny_loadName_local kf k2 hl (v := .ref x) (self_at T hul) ?_) (by decide))) ndb
    obtain ⟨oD, esD, epD, hoD, hdD, _⟩ := Heap.Ns1.count hns (ns := flds) (by
      intro y hy
      refine Classical.byContradiction fun z => hy (look_none ?_)
      intro m
      have m2 : y ∈ (flds.zip us).map (·.1) := by
        rw [List.map_take] at m
        exact (List.take_sublist _ _).subset m
      rw [zip_keys hul] at m2
      exact z m2)
    obtain ⟨hp, gs, dr, tk, os⟩ := s
    refine PySem.W.set_plain kin (ox := eO C t1 (some dx)) (od := some oD) ⟨hx, rfl, rfl, hoD⟩ T.sa ?_
    refine osa_old (nl := flds) kin hx hns (by
      intro y hy
      refine Classical.byContradiction fun z => hy (look_none ?_)
      intro m
      have m2 : y ∈ (flds.zip us).map (·.1) := by
        rw [List.map_take] at m
        exact (List.take_sublist _ _).subset m
      rw [zip_keys hul] at m2
      exact z m2) (Nat.le_trans T.few (by decide)) hcl T.hob hpass hh (T.noN _ (List.getElem_mem _)) fun h' tk' kk hn' => ?_
    show wpAny _ _ (execs _ _) _ _ _
    refine ih (n + 1) ⟨h', gs, dr, tk', os⟩ h1 (by simp only [List.length_cons] at hq; omega) hd (fun b o e => kk b o (fun z => by rw [z, hd] at e; exact nomatch e) (kin b o e)) ?_ (kk _ _ hdx.symm hx) ?_ (fun h2 tk2 k2 n2 => ?_)
    · obtain ⟨o, es, ep, g1, g2⟩ := hl
      exact ⟨o, es, ep, kk _ _ hLd.symm g1, g2⟩
    · have e : (fun y => if y = flds[n] then some (us[n]'(by omega)) else ((flds.zip us).take n).lookup y) = fun y => ((flds.zip us).take (n + 1)).lookup y := by
        funext y
        have := look_step (l := flds.zip us) (n := n) (by rw [zip_keys hul]; exact T.nd2) hzl y
        rw [hz] at this
        exact this
      rw [← e]
      exact hn'
    · exact q h2 tk2 (fun b o hb e => k2 b o hb (kk b o hb e)) n2
theorem err_initG (T : ErrG prog K flds C) (hne : flds ≠ []) {x t0 : Addr} {us : List Value} (hul : us.length = flds.length) {B newId initId : String} {bmB : List Value} (FB : ExcBaseFacts B newId initId bmB) (FK : PySem.W.KxsFacts B initId) (hpass : ∀ self, refuseLoop self "__setattr__" bmB = pure ()) (hqi : initId.startsWith "lifetime." = false) (hty : PySem.W.subIn K (.ref C) (.type B) = some true)
    {nm q : Str} {N : Addr} {bs : List Value} {rs : List Addr} {sn : List Str} {sub : List Value} {ab : Bool} {col : Option Bool} {dd : Option Addr} {k0 k1 k2 k3 k5 : Option Value} (hC : K.lookup C = some (excClassObj nm q C N bs (rs.map Value.ref ++ bmB) true sn sub ab col dd k0 k1 k2 k3 k5 newId)) (hal : PySem.W.alongIn K "__init__" (rs.map Value.ref ++ bmB) = some (some (.builtin initId)))
    {fI : Addr} {oc : Value} {od : Option Addr} {osl : Array (Option Value)} {qual : Str} {doc pm : Value} {an : Option Addr} {cda cc : Addr} {ct : Value} {msg : Str} {j : Nat} {p1 : Pos} {ps : List Pos} {r0 r1 r2 r3 r4 r5 : Pos} {qs : List QP}
    (hqs : qs.length = flds.length) (hm : eM msg j r0 r1 r2 r3 r4) (ho : K.lookup fI = some ⟨oc, od, .func (PySem.W.ksFn "__init__" qual (eArgs flds p1 ps) (eBody flds msg j r0 r1 r2 r3 r4 r5 qs) (eScope flds) .none .none doc pm an (.ref cda) ct cc), osl⟩) (hcd : PySem.W.codeIn K (.ref cda) qual = true)
    (hcode : ∃ cl dd vs sl file tf, K.lookup cda = some ⟨cl, dd, .fields vs, sl⟩ ∧ vs[2]? = some (.str file tf) ∧ ((prog.main.file : Str) == file) = true) (hcell : ∃ cl dd sl, K.lookup cc = some ⟨cl, dd, .cell (some (.ref C)), sl⟩)
    (hbd : ∀ (a : Value) (us : List Value), us.length = flds.length → bindArgs (PySem.W.ksFn "__init__" qual (eArgs flds p1 ps) (eBody flds msg j r0 r1 r2 r3 r4 r5 qs) (eScope flds) .none .none doc pm an (.ref cda) ct cc) ⟨a :: us, []⟩ = pure ((("self" : Str), a) :: flds.zip us))
    (X : K.In s.heap) (hns : s.heap.Ns mainGlobals mg) (hms : mg "super" = none) (hmb : s.heap.Ns builtinsNs mb) (hbb : ∀ y : Str, y ≠ "__name__" → mb y = bootBuiltins y) (hlim : s.heap.NoLimit) (hx : s.heap.get? x = some (eO C t0 none)) (hnx : K.lookup x = none) (hroom : A.depth < recursionLimit)
    (hq : ∀ h' tk dx, ErrAtG s.heap h' x C dx (flds.zip us) → R (.ok (.ret .none)) { s with heap := h', toks := tk }) :
    codeAny (model prog w) A (.call (.ref fI) ⟨.ref x :: us, []⟩) R s := by
  obtain ⟨cl1, dd1, vs1, sl1, file, tf, hcode, hvs, hfile⟩ := hcode
  obtain ⟨cl2, dd2, sl2, hcell⟩ := hcell
  have hcl : PySem.W.clsIn K C = some { name := nm, bases := bs, mro := .ref C :: (rs.map Value.ref ++ bmB), ns := N, qualname := q, hasDict := true, slotNames := sn, subclasses := sub, abstract := ab, collection := col, hasDel := false } := by
    unfold PySem.W.clsIn
    rw [hC] <;> rfl
  have nsup : ("super" : Str) ∉ flds := by
    have h := T.nd
    simp only [List.nodup_cons, List.mem_cons, not_or] at h
    exact h.2.2.1
  have ncls : ("__class__" : Str) ∉ flds := by
    have h := T.nd
    simp only [List.nodup_cons, List.mem_cons, not_or] at h
    exact h.2.1.2
  have es : (eScope flds).names.lookup ("super" : Str) = some .globalImplicit := (esc_more (by decide) nsup).trans (by decide)
  have ec : (eScope flds).names.lookup ("__class__" : Str) = some .free := (esc_more (by decide) ncls).trans (by decide)
  refine ks_codeAny_call_defAt (binds := (("self" : Str), .ref x) :: flds.zip us) hroom (X _ _ ho) rfl hlim (PySem.W.codeRec_of X hcd) rfl (BindsTo.of_eq (hbd _ _ hul)) ?_ ?_ (fun h₁ hl₁ k₁ => ?_)
  · intro y hy
    simp only [eScope, List.mem_cons, List.mem_append, List.mem_map, List.not_mem_nil, or_false] at hy
    rcases hy with rfl | ⟨f, _, rfl⟩ | rfl | rfl <;> exact fun z => nomatch z
  · intro y hy
    rcases List.mem_cons.mp hy with rfl | hy
    · exact esc_self
    · exact esc_fld (List.of_mem_zip (show (y.1, y.2) ∈ _ from hy)).1
  have X₁ := X.keeps k₁
  have hx₁ := k₁ _ _ hx
  obtain ⟨pl, hev⟩ := hm (callEnv (PySem.W.ksFn "__init__" qual (eArgs flds p1 ps) (eBody flds msg j r0 r1 r2 r3 r4 r5 qs) (eScope flds) .none .none doc pm an (.ref cda) ct cc) s.heap.objs.size fI)
  refine ks_wpAt_execs_cons (ks_wpAt_Expr_any (ks_wpAt_MethodCall (pl := pl) (ks_wpAt_super_base es ec (by decide) rfl (X₁ _ _ ho) rfl rfl rfl (X₁ _ _ hcode) rfl hvs hfile T.top ?_) hev))
  refine PySem.W.ks_loadName_global rfl es (PySem.Calls.loadGlobal_builtin (hns.keeps k₁) hms (hmb.keeps k₁) ((hbb _ (by decide +kernel)).trans (by decide +kernel)) ⟨rfl, ?_⟩)
  refine wpAny_loadName_free rfl ec rfl ⟨_, X₁ _ _ hcell, rfl⟩ ?_
  refine wpAny_loadName_local rfl esc_self hl₁ (v := .ref x) (self_at T hul) ?_
  have hmC := X₁ _ _ hC
  refine ks_wpAny_isType_cls hmC rfl ⟨rfl, ?_⟩
  have hsub : PySem.W.mroIn K C (.ref C) = some true := by
    unfold PySem.W.mroIn
    rw [hcl]
    simp
  refine ks_wpAny_call_super hmC rfl hx₁ rfl (fun c z => nomatch z) (PySem.W.looks_mroIn X₁ hsub) (fun h₂ hso k₂ => ?_)
  have X₂ := X₁.keeps k₂
  have hx₂ := k₂ _ _ hx₁
  have I₂ : PySem.W.InstAt h₂ x (eO C t0 none) C none := ⟨hx₂, rfl, rfl, trivial⟩
  refine PySem.W.kxs_getMethod (l₀ := .ref C :: (rs.map Value.ref ++ bmB)) (l := rs.map Value.ref ++ bmB) FK hso (PySem.W.looks_opaque X₂ T.opq) ?_ ?_ X₂ hal (I₂.type.andThen (PySem.W.looks_subIn X₂ hty)) (PySem.W.ks_ne X₂ I₂ hcl) (by decide) ?_
  · exact fun A Q E s k q => wpAny_bind ((PySem.W.looks_clsIn X₂ hcl) A _ E s k (wpAny_pure q))
  · simp
  refine PySem.W.kxs_callWith (i := initId) (x := x) rfl (PySem.Calls.evalArgs_plain (PySem.Calls.spliced_cons (PySem.Calls.Constant_str (pos := r3) (k := j) (PySem.Calls.spliced_nil ⟨?_, ?_⟩))))
  · exact Heap.get?_push_at rfl rfl
  have k₃ : ∀ b o, h₂.get? b = some o → (h₂.push (PySem.W.kxs_mw initId x)).get? b = some o := fun b o e => Heap.get?_push_of_some _ e
  refine xe_bound FB hqi (k₃ _ _ (k₂ _ _ hmC)) (k₃ _ _ hx₂) (Heap.get?_push_at rfl rfl) (by show 1 ≤ sizeLine; decide) fun h₄ t1 k₄ hx₄ => ?_
  have kk : ∀ b o, b ≠ x → h₁.get? b = some o → h₄.get? b = some o := fun b o hb e => k₄ b o hb (k₃ _ _ (k₂ _ _ e))
  have X₄ : K.In h₄ := fun b o e => kk b o (fun z => by rw [z, hnx] at e; exact nomatch e) (X₁ _ _ e)
  have hLx : s.heap.objs.size ≠ x := Nat.ne_of_gt (Heap.lt_size hx)
  have hl₄ : h₄.Ns s.heap.objs.size (fun y => ((("self" : Str), Value.ref x) :: flds.zip us).reverse.lookup y) := by
    obtain ⟨o, es, ep, g1, g2⟩ := hl₁
    exact ⟨o, es, ep, kk _ _ hLx g1, g2⟩
  have hpm : refuseLoop (.ref x) "__setattr__" (.ref C :: (rs.map Value.ref ++ bmB)) = pure () := by
    rw [refuseLoop_ref]
    exact refuse_refs (hpass _) rs
  obtain ⟨f, fl, rfl⟩ : ∃ f fl, flds = f :: fl := by
    cases flds with
    | nil => exact (hne rfl).elim
    | cons f fl => exact ⟨f, fl, rfl⟩
  obtain ⟨q0, qs, rfl⟩ : ∃ q0 ql, qs = q0 :: ql := by
    cases qs with
    | nil => cases hqs
    | cons a b => exact ⟨a, b, rfl⟩
  obtain ⟨u, us, rfl⟩ : ∃ u ul, us = u :: ul := by
    cases us with
    | nil => cases hul
    | cons a b => exact ⟨a, b, rfl⟩
  have ndb : (f == ("__debug__" : Str)) = false := beq_false_of_ne fun z => T.db (z ▸ List.mem_cons_self)
  refine wpAt_of_wpAny (wpAny_execs_cons (plainObj_wpAny_Assign_Attribute ?_))
  refine wpAny_Name (wpAny_loadName_local rfl (esc_fld List.mem_cons_self) hl₄ (v := u) (fld_at T hul List.mem_cons_self) (wpAny_Name (wpAny_loadName_local rfl esc_self hl₄ (v := .ref x) (self_at T hul) ?_) (by decide))) ndb
  refine PySem.W.set_plain X₄ (ox := eO C t1 none) (od := none) ⟨hx₄, rfl, rfl, trivial⟩ T.sa ?_
  refine osa_new X₄ hx₄ hcl T.hob hpm rfl (T.noN _ List.mem_cons_self) (fun h₅ tk₅ dx k₅ dn dne hx₅ hn₅ => ?_)
  have z1 : s.heap.objs.size < h₄.objs.size := hl₄.lt
  have dn : h₄.objs.size ≤ dx := dn
  have dK : K.lookup dx = none := by
    cases e : K.lookup dx with
    | none => rfl
    | some o =>
      have z := Heap.lt_size (X₄ _ _ e)
      exact (Nat.lt_irrefl _ (Nat.lt_of_lt_of_le z dn)).elim
  show wpAny _ _ (execs (List.zipWith eStore ((f :: fl).drop 1) qs) (callEnv (PySem.W.ksFn "__init__" qual (eArgs (f :: fl) p1 ps) (eBody (f :: fl) msg j r0 r1 r2 r3 r4 r5 (q0 :: qs)) (eScope (f :: fl)) .none .none doc pm an (.ref cda) ct cc) s.heap.objs.size fI)) _ _ _
  refine err_stores T (us := u :: us) rfl hcl rfl hpm hnx hLx (Nat.ne_of_gt (Nat.lt_of_lt_of_le z1 dn)) dne hul 1 qs _ (by show 1 ≤ fl.length + 1; omega) (by show qs.length = fl.length + 1 - 1; simp only [List.length_cons] at hqs; omega) dK (fun b o e => k₅ b o (fun z => by rw [z, hnx] at e; exact nomatch e) (X₄ b o e)) ?_ hx₅ ?_ fun h6 tk6 k6 n6 => ?_
  · obtain ⟨o, es, ep, g1, g2⟩ := hl₄
    exact ⟨o, es, ep, k₅ _ _ hLx g1, g2⟩
  · have e : (fun y => if y = f then some u else none) = fun y => (((f :: fl).zip (u :: us)).take 1).lookup y := by
      funext y
      show _ = List.lookup y [(f, u)]
      by_cases h : y = f
      · rw [if_pos h, h]
        simp [List.lookup]
      · have e : (y == f) = false := beq_false_of_ne h
        rw [if_neg h]
        simp [List.lookup, e]
    rw [← e]
    exact hn₅
  · refine hq h6 tk6 dx ⟨fun b o hb e => ?_, ⟨t1, k6 _ _ dne.symm hx₅⟩, by omega, dne, n6⟩
    have z2 : b < s.heap.objs.size := Heap.lt_size e
    exact k6 b o (Nat.ne_of_lt (Nat.lt_of_lt_of_le (Nat.lt_trans z2 z1) dn)) (k₅ b o hb (kk b o hb (k₁ b o e)))
/-- a made error -/
structure ErrNewG (h h' : Heap) (e C d : Addr) (fs : List (Str × Value)) : Prop where
  keep : ∀ b o, h.get? b = some o → h'.get? b = some o
  far : h.objs.size ≤ e
  obj : ∃ t1, h'.get? e = some (eO C t1 (some d))
  dfar : e < d
  ns : h'.Ns1 d fun y => fs.lookup y
theorem err_madeG (T : ErrG prog K flds C) (hne : flds ≠ []) {us : List Value} (hul : us.length = flds.length) (X : K.In s.heap) (hns : s.heap.Ns mainGlobals mg) (hms : mg "super" = none) (hmb : s.heap.Ns builtinsNs mb) (hbb : ∀ y : Str, y ≠ "__name__" → mb y = bootBuiltins y) (hlim : s.heap.NoLimit) (hroom : A.depth + 1 < recursionLimit)
    (hq : ∀ h' tk e d, ErrNewG s.heap h' e C d (flds.zip us) → R (.ok (.ret (.ref e))) { s with heap := h', toks := tk }) : codeAny (model prog w) A (.call (.ref C) ⟨us, []⟩) R s := by
  obtain ⟨B, newId, initId, bmB, FB, FK, hpass, hqi, hty, nm, q, N, bs, rs, sn, sub, ab, col, dd, k0, k1, k2, k3, k5, hC, hal⟩ := T.cls
  obtain ⟨fI, oc, od, osl, qual, doc, pm, an, cda, cc, ct, msg, j, p1, ps, r0, r1, r2, r3, r4, r5, qs, hps, hqs, hm, hi, ht, ho, hcd, hcode, hcell, hbd⟩ := T.fn
  obtain ⟨hp, gs, dr, tk, os⟩ := s
  have up : ∀ b o, hp.get? b = some o → ((hp.push (PySem.W.kdv_tup us)).push (PySem.HandSPX.excO C hp.objs.size)).get? b = some o := fun b o e => Heap.get?_push_of_some _ (Heap.get?_push_of_some _ e)
  have at1 : ((hp.push (PySem.W.kdv_tup us)).push (PySem.HandSPX.excO C hp.objs.size)).get? (hp.objs.size + 1) = some (eO C hp.objs.size none) := by heap_get
  have nk : K.lookup (hp.objs.size + 1) = none := by
    cases e : K.lookup (hp.objs.size + 1) with
    | none => rfl
    | some o =>
      have z := Heap.lt_size (show hp.get? (hp.objs.size + 1) = some o from X _ _ e)
      exact (Nat.lt_irrefl _ (Nat.lt_of_succ_lt z)).elim
  refine PySem.HandSPX.call_own FB (fun Y => refs_contains Y rs) (X _ _ hC) (PySem.W.looks_findIn X hi) (fun me => PySem.W.bind_fn X me ht) (by rw [hul]; exact Nat.le_trans T.few (by decide)) ?_
  refine err_initG (s := ⟨(hp.push (PySem.W.kdv_tup us)).push (PySem.HandSPX.excO C hp.objs.size), gs, dr, tk, os⟩) T hne hul FB FK hpass hqi hty hC hal hqs hm ho hcd hcode hcell hbd (X.keeps up) (hns.keeps up) hms (hmb.keeps up) hbb (hlim.keeps up) at1 nk hroom fun h' tk' dx a => ?_
  have z := a.far
  have z2 : ((hp.push (PySem.W.kdv_tup us)).push (PySem.HandSPX.excO C hp.objs.size)).objs.size = hp.objs.size + 1 + 1 := by
    rw [Heap.size_push, Heap.size_push]
  have z3 : hp.objs.size + 1 + 1 ≤ dx := by
    rw [← z2]
    exact z
  exact ⟨rfl, hq h' tk' (hp.objs.size + 1) dx ⟨fun b o e => a.keep b o (Nat.ne_of_lt (Nat.lt_succ_of_lt (Heap.lt_size e))) (up b o e), Nat.le_succ _, a.obj, z3, a.ns⟩⟩
end
/-- the class under its name -/
structure ErrNG (prog : Program) (K : PySem.W.Frag) (mg : Str → Option Value) (x : Str) (flds : List Str) (C : Addr) : Prop extends ErrG prog K flds C where
  ne : flds ≠ []
  gC : mg x = some (.ref C)
  kC : PySem.W.keepIn K (.ref C) = true
  exC : PySem.W.subIn K (.ref C) (.type "BaseException") = some true
  tyC : PySem.W.typeIn K (.ref C) = some (.type "type")
  hdC : PySem.W.hasDictIn K C = true
  ga : PySem.W.findIn K (.ref C) "__getattribute__" = some (some (.builtin "BaseException.__getattribute__"))
  gg : PySem.W.findIn K (.ref C) "__getattr__" = some none
theorem relO_zip {y : Str} : ∀ {flds : List Str} {vs : List V} {us : List Value}, Vals vs us → RelO (List.lookup y (flds.zip vs)) (List.lookup y (flds.zip us))
  | [], _, _, _ => trivial
  | f :: fl, _, _, .nil => trivial
  | f :: fl, _, _, .cons h t => by
    by_cases e : y == f
    · simp only [List.zip_cons_cons, List.lookup, e]
      exact h
    · have e : (y == f) = false := by simpa using e
      simp only [List.zip_cons_cons, List.lookup, e]
      exact relO_zip t
/-- an error object at e, its own dict at d -/
def erP (C e d : Addr) : HO := .ext fun h => ∃ t1, h.get? e = some (eO C t1 (some d))
theorem trunc (h : Heap) (n : Nat) : ∃ G : Heap, (∀ b, b < n → G.get? b = h.get? b) ∧ G.objs.size ≤ n := by
  refine ⟨⟨h.objs.extract 0 n, h.life⟩, fun b hb => ?_, ?_⟩
  · unfold Heap.get?
    have : (h.objs.extract 0 n)[b]? = h.objs[b]? := by
      rw [Array.getElem?_extract]
      simp
      intro hz
      omega
    simp only [this]
  · simp only [Array.size_extract]
    omega
def tMkG (C : Addr) (flds : List Str) (ta : TA) : L2.St → Hp → XK → Prop := fun σ H Q => ta σ H fun vs H1 => vs.length = flds.length ∧ ∀ d, H1 d = none → Q (.ref C) (some d) (upd H1 d (.xd (flds.zip vs)))
def tMkV (C : Addr) (flds : List Str) (ta : TA) : TE := fun σ H Q => ta σ H fun vs H1 => vs.length = flds.length ∧ ∀ e d, H1 e = none → H1 d = none → d ≠ e → Q (.ref e) (upd (upd H1 e (erP C e d)) d (.xd (flds.zip vs)))
section
variable {X : Cx} {C : Addr} {x : Str} {flds : List Str}
theorem pmk_errG {a : Expr} {as : List Expr} {ta : TA} {p pos : Pos} {k : Nat} (T : ErrNG X.prog X.K X.mg x flds C) (hms : X.mg "super" = none) (hr : Room k X.A) (hk : 1 ≤ k) (hg : Gl X x) (ha : PA X (a :: as) ta) (hdb : (x == ("__debug__" : Str)) = false := by decide)
    (he : starEach (a :: as) X.env = (false, eval a X.env) :: starEach as X.env := by rfl) (hpl : (backTo pos (starEach as X.env)).any (·.1) = false := by rfl) : PMk X (.Call (.Name x p) (a :: as) [] pos) (tMkG C flds ta) := by
  intro pins s σ H Q I h
  refine wpAny_Call_Name_kw (ld_glob I hg T.gC ?_ hdb)
  refine PySem.W.callWith_K (h₀ := X.base) I.ok.mod.kin T.kC (thn (ha.run pos pins s σ H _ I h) fun us s1 z => ?_) he hpl
  obtain ⟨vs, H1, I1, rel, hvl, q1⟩ := z
  refine ⟨I1.kIn, ?_⟩
  show wpAny _ _ (call (.ref C) us) _ _ _
  have lim := I1.nolimit
  have kin := I1.kIn
  obtain ⟨mb, nb, hbb⟩ := I1.ok.mod.blt
  have nb1 := nb.keeps I1.bk
  have ng1 := I1.mod.glob.keeps I1.bk
  obtain ⟨hp, gs, dr, tk, os⟩ := s1
  refine wpAny_call (err_madeG T.toErrG T.ne (by rw [← rel.length]; exact hvl) kin ng1 hms nb1 hbb lim (by have := hr.dp; omega) fun h' tk' e d M => ?_)
  show MkP X pins σ Q (.ref e) ⟨h', gs, dr, tk', os⟩
  obtain ⟨t1, hoe⟩ := M.obj
  have ne : d ≠ e := Nat.ne_of_gt M.dfar
  have dfar : hp.objs.size ≤ d := Nat.le_of_lt (Nat.lt_of_le_of_lt M.far M.dfar)
  obtain ⟨Gh, g1, g2⟩ := restrict h' fun b => decide (b ≠ e)
  have gk : ∀ b, b ≠ e → Gh.get? b = h'.get? b := fun b hb => g1 b (decide_eq_true hb)
  have ge : Gh.get? e = none := g2 e (by simp)
  have old : ∀ b o, hp.get? b = some o → Gh.get? b = some o := fun b o z => (gk b (Nat.ne_of_lt (Nat.lt_of_lt_of_le (Heap.lt_size z) M.far))).trans (M.keep b o z)
  have ob : ObjOk X.prog X.w (upd H1 d (.xd (flds.zip vs))) Gh d (.xd (flds.zip vs)) := ⟨_, M.ns.at (fun o z => (gk d ne).trans z), fun y => relO_zip rel⟩
  have J : Inv X pins σ (upd H1 d (.xd (flds.zip vs))) ⟨Gh, gs, dr, tk', os⟩ := I1.laid (t' := tk') old dfar ob
  refine ⟨e, _, _, ⟨Gh, gs, dr, tk', os⟩, _, .ref C, some d, rfl, J, fun b o z => ?_, ge, hoe, ⟨rfl, rfl⟩, rfl, rfl, ?_, rfl, I1.bare, raises_own T.exC T.tyC, q1 d (I1.hok.fresh dfar)⟩
  · by_cases hb : b = e
    · rw [hb] at z
      exact nomatch (show (none : Option Obj) = some o from ge.symm.trans z)
    · exact (gk b hb).symm.trans z
  · rw [upd_ne (fun z => ne z.symm)]
    exact I1.hok.fresh M.far
/-- C(e, ..) as a value -/
theorem pe_errG {a : Expr} {as : List Expr} {ta : TA} {p pos : Pos} {k : Nat} (T : ErrNG X.prog X.K X.mg x flds C) (hms : X.mg "super" = none) (hr : Room k X.A) (hk : 1 ≤ k) (hg : Gl X x) (ha : PA X (a :: as) ta) (hdb : (x == ("__debug__" : Str)) = false := by decide)
    (he : starEach (a :: as) X.env = (false, eval a X.env) :: starEach as X.env := by rfl) (hpl : (backTo pos (starEach as X.env)).any (·.1) = false := by rfl) : PE X (.Call (.Name x p) (a :: as) [] pos) (tMkV C flds ta) := by
  constructor
  intro pins s σ H Q I h
  refine wpAny_Call_Name_kw (ld_glob I hg T.gC ?_ hdb)
  refine PySem.W.callWith_K (h₀ := X.base) I.ok.mod.kin T.kC (thn (ha.run pos pins s σ H _ I h) fun us s1 z => ?_) he hpl
  obtain ⟨vs, H1, I1, rel, hvl, q1⟩ := z
  refine ⟨I1.kIn, ?_⟩
  show wpAny _ _ (call (.ref C) us) _ _ _
  have lim := I1.nolimit
  have kin := I1.kIn
  obtain ⟨mb, nb, hbb⟩ := I1.ok.mod.blt
  have nb1 := nb.keeps I1.bk
  have ng1 := I1.mod.glob.keeps I1.bk
  obtain ⟨hp, gs, dr, tk, os⟩ := s1
  refine wpAny_call (err_madeG T.toErrG T.ne (by rw [← rel.length]; exact hvl) kin ng1 hms nb1 hbb lim (by have := hr.dp; omega) fun h' tk' e d M => ?_)
  obtain ⟨t1, hoe⟩ := M.obj
  have ne : d ≠ e := Nat.ne_of_gt M.dfar
  have dfar : hp.objs.size ≤ d := Nat.le_of_lt (Nat.lt_of_le_of_lt M.far M.dfar)
  obtain ⟨Gh, g1, g2⟩ := trunc h' (e + 1)
  have old : ∀ b o, hp.get? b = some o → Gh.get? b = some o := fun b o z => (g1 b (Nat.lt_succ_of_lt (Nat.lt_of_lt_of_le (Heap.lt_size z) M.far))).trans (M.keep b o z)
  have hge : Gh.get? e = some (eO C t1 (some d)) := (g1 e (Nat.lt_succ_self _)).trans hoe
  have ob1 : ObjOk X.prog X.w (upd H1 e (erP C e d)) Gh e (erP C e d) := ⟨⟨t1, hge⟩, ⟨_, hge⟩, fun h1 h2 ⟨t, z⟩ k => ⟨t, k _ z⟩⟩
  have J1 : Inv X pins σ (upd H1 e (erP C e d)) ⟨Gh, gs, dr, tk', os⟩ := I1.laid (t' := tk') old M.far ob1
  have old2 : ∀ b o, Gh.get? b = some o → h'.get? b = some o := fun b o z => by
    have hb : b < e + 1 := Nat.lt_of_lt_of_le (Heap.lt_size z) g2
    rw [← g1 b hb]
    exact z
  have dfar2 : Gh.objs.size ≤ d := Nat.le_trans g2 M.dfar
  have ob2 : ObjOk X.prog X.w (upd (upd H1 e (erP C e d)) d (.xd (flds.zip vs))) h' d (.xd (flds.zip vs)) := ⟨_, M.ns, fun y => relO_zip rel⟩
  have J2 : Inv X pins σ (upd (upd H1 e (erP C e d)) d (.xd (flds.zip vs))) ⟨h', gs, dr, tk', os⟩ := J1.laid (t' := tk') old2 dfar2 ob2
  exact ⟨.ref e, _, J2, rfl, q1 e d (I1.hok.fresh M.far) (I1.hok.fresh dfar) ne⟩
end
end G
set_option Elab.async false
set_option linter.all false
set_option maxRecDepth 100000
set_option maxHeartbeats 4000000
namespace M
open PySem PySem.Spec L2 G
/-! ### small values: tuples and settled lists are values, what may still change stands in a small heap -/
inductive MV where
  | non | bl (b : Bool) | int (i : Int) | str (x : Str)
  | tup (xs : List MV) | lst (xs : List MV) | scr (xs : List MV) | dct (kvs : List (Key × MV))
  | ref (n : Nat) | ty (n : String) | gl (x : Str) | er (c : Str) (fs : List (Str × MV)) | obj (c : Str) (fs : List (Str × MV))
inductive MO where
  | lst (xs : List MV) | dct (kvs : List (Key × MV)) | ins (c : Str) (fs : List (Str × MV))
abbrev MH := List MO
abbrev Fs := List (Str × MV)
/-- what a piece of code comes to -/
inductive R (α : Type) where
  | ok (a : α) (h : MH) | exc (c : Str) (fs : Fs) (h : MH) | bad
def R.bind {α β : Type} (r : R α) (k : α → MH → R β) : R β :=
  match r with
  | .ok a h => k a h
  | .exc c fs h => .exc c fs h
  | .bad => .bad
@[simp] theorem bind_ok {α β : Type} (a : α) (h : MH) (k : α → MH → R β) : (R.ok a h).bind k = k a h := rfl
@[simp] theorem bind_exc {α β : Type} (c : Str) (fs : Fs) (h : MH) (k : α → MH → R β) : (R.exc c fs h).bind k = .exc c fs h := rfl
@[simp] theorem bind_bad {α β : Type} (k : α → MH → R β) : (R.bad).bind k = .bad := rfl
inductive Sl where
  | non | val (v : MV) | err (c : Str) (fs : Fs)
abbrev Sm := List Sl
/-! ### what stands for what -/
section
variable (K : PySem.W.Frag) (mg : Str → Option Value)
mutual
inductive VR (F : Hp) (ρ : List Addr) : MV → V → Prop
  | non : VR F ρ .non .non
  | bl (b : Bool) : VR F ρ (.bl b) (.bl b)
  | int (i : Int) : VR F ρ (.int i) (.int i)
  | str (x : Str) : VR F ρ (.str x) (.str x)
  | ty (n : String) : VR F ρ (.ty n) (.ty n)
  | tup {a : Addr} {xs : List MV} {ys : List V} : SqT K F a ys → VRs F ρ xs ys → VR F ρ (.tup xs) (.ref a)
  | lst {a : Addr} {xs : List MV} {ys : List V} : F a = some (.lst ys) → VRs F ρ xs ys → VR F ρ (.lst xs) (.ref a)
  | scr {a : Addr} {xs : List MV} {ys : List V} : SqL K F a ys → VRs F ρ xs ys → VR F ρ (.scr xs) (.ref a)
  | dct {a : Addr} {xs : List (Key × MV)} {ys : List (Key × V)} : Rd F a (.dK ys) → VRk F ρ xs ys → VR F ρ (.dct xs) (.ref a)
  | ref {n : Nat} {a : Addr} : ρ[n]? = some a → VR F ρ (.ref n) (.ref a)
  | gl {x : Str} {a : Addr} : mg x = some (.ref a) → VR F ρ (.gl x) (.ref a)
  | er {c : Str} {C a d : Addr} {fs : List (Str × MV)} {gs : List (Str × V)} : mg c = some (.ref C) → F a = some (erP C a d) → F d = some (.xd gs) → FR F ρ fs gs → VR F ρ (.er c fs) (.ref a)
  | obj {c : Str} {C a d : Addr} {fs : List (Str × MV)} {gs : List (Str × V)} : mg c = some (.ref C) → F a = some (.ins C d gs) → FR F ρ fs gs → VR F ρ (.obj c fs) (.ref a)
inductive VRs (F : Hp) (ρ : List Addr) : List MV → List V → Prop
  | nil : VRs F ρ [] []
  | cons {v : MV} {x : V} {vs : List MV} {xs : List V} : VR F ρ v x → VRs F ρ vs xs → VRs F ρ (v :: vs) (x :: xs)
inductive VRk (F : Hp) (ρ : List Addr) : List (Key × MV) → List (Key × V) → Prop
  | nil : VRk F ρ [] []
  | cons {k : Key} {v : MV} {x : V} {vs : List (Key × MV)} {xs : List (Key × V)} : VR F ρ v x → VRk F ρ vs xs → VRk F ρ ((k, v) :: vs) ((k, x) :: xs)
inductive FR (F : Hp) (ρ : List Addr) : List (Str × MV) → List (Str × V) → Prop
  | nil : FR F ρ [] []
  | cons {k : Str} {v : MV} {x : V} {vs : List (Str × MV)} {xs : List (Str × V)} : VR F ρ v x → FR F ρ vs xs → FR F ρ ((k, v) :: vs) ((k, x) :: xs)
end
inductive OR (F : Hp) (ρ : List Addr) : MO → HO → Prop
  | lst {xs : List MV} {ys : List V} : VRs K mg F ρ xs ys → OR F ρ (.lst xs) (.lst ys)
  | dct {xs : List (Key × MV)} {ys : List (Key × V)} : VRk K mg F ρ xs ys → OR F ρ (.dct xs) (.dK ys)
  | ins {c : Str} {C dx : Addr} {fs : Fs} {gs : List (Str × V)} : mg c = some (.ref C) → FR K mg F ρ fs gs → OR F ρ (.ins c fs) (.ins C dx gs)
end
structure Wd where
  ρ : List Addr
  F : Hp
/-- it has grown -/
structure Wd.le (W W' : Wd) : Prop where
  pre : W.ρ <+: W'.ρ
  fz : ∀ a o, W.F a = some o → W'.F a = some o
theorem Wd.le.refl (W : Wd) : W.le W := ⟨List.prefix_refl _, fun _ _ h => h⟩
theorem Wd.le.trans {A B C : Wd} (a : A.le B) (b : B.le C) : A.le C := ⟨a.pre.trans b.pre, fun x o h => b.fz x o (a.fz x o h)⟩
theorem pre_get {α : Type} {l l' : List α} (h : l <+: l') {n : Nat} {a : α} (e : l[n]? = some a) : l'[n]? = some a := by
  obtain ⟨t, rfl⟩ := h
  have := (List.getElem?_eq_some_iff.mp e).1
  rw [List.getElem?_append_left this]
  exact e
section
variable {K : PySem.W.Frag} {mg : Str → Option Value}
theorem rd_le {F F' : Hp} (f : ∀ a o, F a = some o → F' a = some o) {a : Addr} {u : HO} (h : Rd F a u) : Rd F' a u := by
  rcases h with h | ⟨o, h⟩
  · exact .inl (f _ _ h)
  · exact .inr ⟨o, f _ _ h⟩
theorem sqt_le {F F' : Hp} (f : ∀ a o, F a = some o → F' a = some o) {a : Addr} {ys : List V} (h : SqT K F a ys) : SqT K F' a ys := by
  rcases h with h | h
  · exact .inl (rd_le f h)
  · exact .inr h
theorem sql_le {F F' : Hp} (f : ∀ a o, F a = some o → F' a = some o) {a : Addr} {ys : List V} (h : SqL K F a ys) : SqL K F' a ys := by
  rcases h with h | h
  · exact .inl (rd_le f h)
  · exact .inr h
mutual
theorem VR.le {W W' : Wd} (l : W.le W') : ∀ {v : MV} {x : V}, VR K mg W.F W.ρ v x → VR K mg W'.F W'.ρ v x
  | _, _, .non => .non
  | _, _, .bl b => .bl b
  | _, _, .int i => .int i
  | _, _, .str x => .str x
  | _, _, .ty n => .ty n
  | _, _, .tup h hs => .tup (sqt_le l.fz h) (VRs.le l hs)
  | _, _, .lst h hs => .lst (l.fz _ _ h) (VRs.le l hs)
  | _, _, .scr h hs => .scr (sql_le l.fz h) (VRs.le l hs)
  | _, _, .dct h hs => .dct (rd_le l.fz h) (VRk.le l hs)
  | _, _, .ref h => .ref (pre_get l.pre h)
  | _, _, .gl h => .gl h
  | _, _, .er h1 h2 h3 h4 => .er h1 (l.fz _ _ h2) (l.fz _ _ h3) (FR.le l h4)
  | _, _, .obj h1 h2 h3 => .obj h1 (l.fz _ _ h2) (FR.le l h3)
theorem VRs.le {W W' : Wd} (l : W.le W') : ∀ {v : List MV} {x : List V}, VRs K mg W.F W.ρ v x → VRs K mg W'.F W'.ρ v x
  | _, _, .nil => .nil
  | _, _, .cons h t => .cons (VR.le l h) (VRs.le l t)
theorem VRk.le {W W' : Wd} (l : W.le W') : ∀ {v : List (Key × MV)} {x : List (Key × V)}, VRk K mg W.F W.ρ v x → VRk K mg W'.F W'.ρ v x
  | _, _, .nil => .nil
  | _, _, .cons h t => .cons (VR.le l h) (VRk.le l t)
theorem FR.le {W W' : Wd} (l : W.le W') : ∀ {fs : List (Str × MV)} {gs : List (Str × V)}, FR K mg W.F W.ρ fs gs → FR K mg W'.F W'.ρ fs gs
  | _, _, .nil => .nil
  | _, _, .cons h t => .cons (VR.le l h) (FR.le l t)
end
theorem OR.le {W W' : Wd} (l : W.le W') {o : MO} {u : HO} (h : OR K mg W.F W.ρ o u) : OR K mg W'.F W'.ρ o u := by
  cases h with
  | lst h => exact .lst (h.le l)
  | dct h => exact .dct (h.le l)
  | ins c h => exact .ins c (h.le l)
/-! ### lists of values -/
theorem VRs.length {F : Hp} {ρ : List Addr} : ∀ {vs : List MV} {xs : List V}, VRs K mg F ρ vs xs → vs.length = xs.length
  | _, _, .nil => rfl
  | _, _, .cons _ t => congrArg (· + 1) t.length
theorem VRs.get {F : Hp} {ρ : List Addr} : ∀ {vs : List MV} {xs : List V} {i : Nat} {v : MV}, VRs K mg F ρ vs xs → vs[i]? = some v → ∃ x, xs[i]? = some x ∧ VR K mg F ρ v x
  | _, _, 0, _, .cons h _, e => by
    cases e
    exact ⟨_, rfl, h⟩
  | _, _, i + 1, v, .cons _ h, e => VRs.get (i := i) h e
  | _, _, _, _, .nil, e => by cases e
theorem VRs.app {F : Hp} {ρ : List Addr} : ∀ {vs ws : List MV} {xs ys : List V}, VRs K mg F ρ vs xs → VRs K mg F ρ ws ys → VRs K mg F ρ (vs ++ ws) (xs ++ ys)
  | _, _, _, _, .nil, h => h
  | _, _, _, _, .cons a t, h => .cons a (VRs.app t h)
theorem VRs.set {F : Hp} {ρ : List Addr} {v : MV} {x : V} (hv : VR K mg F ρ v x) : ∀ {vs : List MV} {xs : List V} (i : Nat), VRs K mg F ρ vs xs → VRs K mg F ρ (vs.set i v) (xs.set i x)
  | _, _, _, .nil => .nil
  | _, _, 0, .cons _ t => .cons hv t
  | _, _, i + 1, .cons a t => .cons a (VRs.set hv i t)
theorem VRs.erase {F : Hp} {ρ : List Addr} : ∀ {vs : List MV} {xs : List V} (i : Nat), VRs K mg F ρ vs xs → VRs K mg F ρ (vs.eraseIdx i) (xs.eraseIdx i)
  | _, _, _, .nil => .nil
  | _, _, 0, .cons _ t => t
  | _, _, i + 1, .cons a t => .cons a (VRs.erase i t)
theorem VRs.take {F : Hp} {ρ : List Addr} : ∀ {vs : List MV} {xs : List V} (n : Nat), VRs K mg F ρ vs xs → VRs K mg F ρ (vs.take n) (xs.take n)
  | _, _, 0, _ => .nil
  | _, _, n + 1, .nil => .nil
  | _, _, n + 1, .cons h t => .cons h (VRs.take n t)
theorem VRs.drop {F : Hp} {ρ : List Addr} : ∀ {vs : List MV} {xs : List V} (n : Nat), VRs K mg F ρ vs xs → VRs K mg F ρ (vs.drop n) (xs.drop n)
  | _, _, 0, h => h
  | _, _, n + 1, .nil => .nil
  | _, _, n + 1, .cons _ t => VRs.drop n t
theorem VRs.rev {F : Hp} {ρ : List Addr} : ∀ {vs : List MV} {xs : List V}, VRs K mg F ρ vs xs → VRs K mg F ρ vs.reverse xs.reverse
  | _, _, .nil => .nil
  | _, _, .cons h t => by
    rw [List.reverse_cons, List.reverse_cons]
    exact t.rev.app (.cons h .nil)
theorem VRs.rep {F : Hp} {ρ : List Addr} {vs : List MV} {xs : List V} (h : VRs K mg F ρ vs xs) : ∀ k : Nat, VRs K mg F ρ (List.replicate k vs).flatten (List.replicate k xs).flatten
  | 0 => .nil
  | k + 1 => by
    rw [List.replicate_succ, List.replicate_succ, List.flatten_cons, List.flatten_cons]
    exact h.app (VRs.rep h k)
theorem FR.look {F : Hp} {ρ : List Addr} {f : Str} : ∀ {fs : Fs} {gs : List (Str × V)}, FR K mg F ρ fs gs → (∃ v x, fs.lookup f = some v ∧ gs.lookup f = some x ∧ VR K mg F ρ v x) ∨ (fs.lookup f = none ∧ gs.lookup f = none)
  | _, _, .nil => .inr ⟨rfl, rfl⟩
  | _, _, @FR.cons _ _ _ _ k v x vs xs h t => by
    by_cases e : f == k
    · exact .inl ⟨v, x, by simp [List.lookup, e], by simp [List.lookup, e], h⟩
    · have e : (f == k) = false := by simpa using e
      simpa [List.lookup, e] using FR.look t
theorem FR.length {F : Hp} {ρ : List Addr} : ∀ {fs : Fs} {gs : List (Str × V)}, FR K mg F ρ fs gs → fs.length = gs.length
  | _, _, .nil => rfl
  | _, _, .cons _ t => congrArg (· + 1) t.length
theorem FR.zip {F : Hp} {ρ : List Addr} : ∀ {ks : List Str} {vs : List MV} {xs : List V}, VRs K mg F ρ vs xs → FR K mg F ρ (ks.zip vs) (ks.zip xs)
  | [], _, _, _ => by
    rw [List.zip_nil_left, List.zip_nil_left]
    exact .nil
  | k :: ks, _, _, .nil => .nil
  | k :: ks, _, _, .cons h t => .cons h (FR.zip t)
/-- field put -/
def putM (f : Str) (v : MV) : Fs → Fs
  | [] => [(f, v)]
  | (g, w) :: r => if g = f then (g, v) :: r else (g, w) :: putM f v r
end
/-! ### the heap -/
structure Hr (K : PySem.W.Frag) (mg : Str → Option Value) (W : Wd) (h : MH) (H : Hp) : Prop where
  nd : W.ρ.Nodup
  len : W.ρ.length = h.length
  fz : ∀ a o, W.F a = some o → H a = some o
  nf : ∀ a, a ∈ W.ρ → W.F a = none
  ob : ∀ (n : Nat) (a : Addr) (o : MO), W.ρ[n]? = some a → h[n]? = some o → ∃ u, H a = some u ∧ OR K mg W.F W.ρ o u
/-- later: it has grown, and what is not ours stands -/
structure Ex (W : Wd) (H : Hp) (W' : Wd) (H' : Hp) : Prop where
  le : W.le W'
  out : ∀ a o, H a = some o → a ∉ W.ρ → W.F a = none → H' a = some o ∧ a ∉ W'.ρ ∧ W'.F a = none
theorem Ex.refl (W : Wd) (H : Hp) : Ex W H W H := ⟨Wd.le.refl W, fun _ _ h n f => ⟨h, n, f⟩⟩
theorem Ex.trans {A B C : Wd} {H H1 H2 : Hp} (a : Ex A H B H1) (b : Ex B H1 C H2) : Ex A H C H2 := ⟨a.le.trans b.le, fun x o h n f => by
  obtain ⟨h1, n1, f1⟩ := a.out x o h n f
  exact b.out x o h1 n1 f1⟩
section
variable {K : PySem.W.Frag} {mg : Str → Option Value} {W : Wd} {h : MH} {H : Hp}
theorem Hr.at (r : Hr K mg W h H) {n : Nat} {o : MO} (e : h[n]? = some o) : ∃ a u, W.ρ[n]? = some a ∧ H a = some u ∧ OR K mg W.F W.ρ o u := by
  have hn := (List.getElem?_eq_some_iff.mp e).1
  have hn' : n < W.ρ.length := by rw [r.len]; exact hn
  obtain ⟨u, h1, h2⟩ := r.ob n _ o (List.getElem?_eq_getElem hn') e
  exact ⟨_, u, List.getElem?_eq_getElem hn', h1, h2⟩
theorem Hr.trk (r : Hr K mg W h H) {a : Addr} (e : a ∈ W.ρ) : ∃ u, H a = some u := by
  obtain ⟨n, hn⟩ := List.mem_iff_getElem?.mp e
  have h1 := (List.getElem?_eq_some_iff.mp hn).1
  have h2 : n < h.length := by rw [← r.len]; exact h1
  obtain ⟨u, h3, _⟩ := r.ob n a _ hn (List.getElem?_eq_getElem h2)
  exact ⟨u, h3⟩
theorem Hr.fresh (r : Hr K mg W h H) {p : Addr} (e : H p = none) : p ∉ W.ρ ∧ W.F p = none := by
  refine ⟨fun m => ?_, ?_⟩
  · obtain ⟨u, h1⟩ := r.trk m
    rw [e] at h1
    cases h1
  · cases z : W.F p with
    | none => rfl
    | some o =>
      rw [r.fz p o z] at e
      cases e
theorem rd_new {H : Hp} {p : Addr} {o u : HO} {a : Addr} (hp : H p = none) (h : Rd H a u) : Rd (upd H p o) a u := rd_le (same_new hp) h
/-- a settled object more -/
theorem Hr.newF (r : Hr K mg W h H) {p : Addr} {u : HO} (e : H p = none) : Hr K mg ⟨W.ρ, upd W.F p u⟩ h (upd H p u) ∧ Ex W H ⟨W.ρ, upd W.F p u⟩ (upd H p u) := by
  obtain ⟨n1, n2⟩ := r.fresh e
  have le : W.le ⟨W.ρ, upd W.F p u⟩ := ⟨List.prefix_refl _, same_new n2⟩
  refine ⟨⟨r.nd, r.len, fun a o h1 => ?_, fun a m => ?_, fun n a o h1 h2 => ?_⟩, le, fun a o h1 h2 h3 => ⟨same_new e a o h1, h2, ?_⟩⟩
  · have h1 : upd W.F p u a = some o := h1
    by_cases z : a = p
    · subst z
      rw [upd_same] at h1 ⊢
      exact h1
    · rw [upd_ne z] at h1 ⊢
      exact r.fz a o h1
  · show upd W.F p u a = none
    have z : a ≠ p := fun z => n1 (z ▸ m)
    rw [upd_ne z]
    exact r.nf a m
  · obtain ⟨v, h3, h4⟩ := r.ob n a o h1 h2
    exact ⟨v, same_new e a v h3, h4.le le⟩
  · show upd W.F p u a = none
    rw [upd_ne (ne_of_none h1 e)]
    exact h3
/-- an object more in the small heap -/
theorem Hr.newR (r : Hr K mg W h H) {p : Addr} {o : MO} {u : HO} (e : H p = none) (ho : OR K mg W.F W.ρ o u) : Hr K mg ⟨W.ρ ++ [p], W.F⟩ (h ++ [o]) (upd H p u) ∧ Ex W H ⟨W.ρ ++ [p], W.F⟩ (upd H p u) := by
  obtain ⟨n1, n2⟩ := r.fresh e
  have le : W.le ⟨W.ρ ++ [p], W.F⟩ := ⟨List.prefix_append _ _, fun _ _ z => z⟩
  refine ⟨⟨?_, ?_, fun a o h1 => same_new e a o (r.fz a o h1), fun a m => ?_, fun n a o' h1 h2 => ?_⟩, le, fun a o h1 h2 h3 => ⟨same_new e a o h1, ?_, h3⟩⟩
  · exact List.nodup_append.mpr ⟨r.nd, by simp, fun a ha b hb => by
      rw [List.mem_singleton] at hb
      subst hb
      exact fun z => n1 (z ▸ ha)⟩
  · show (W.ρ ++ [p]).length = (h ++ [o]).length
    rw [List.length_append, List.length_append, r.len]
    rfl
  · rcases List.mem_append.mp m with m | m
    · exact r.nf a m
    · rw [List.mem_singleton] at m
      subst m
      exact n2
  · have h1 : (W.ρ ++ [p])[n]? = some a := h1
    by_cases hn : n < h.length
    · rw [List.getElem?_append_left hn] at h2
      rw [List.getElem?_append_left (by rw [r.len]; exact hn)] at h1
      obtain ⟨v, h3, h4⟩ := r.ob n a o' h1 h2
      exact ⟨v, same_new e a v h3, h4.le le⟩
    · have hl := (List.getElem?_eq_some_iff.mp h2).1
      rw [List.length_append] at hl
      have e1 : ([o] : List MO).length = 1 := rfl
      obtain rfl : n = h.length := by omega
      rw [List.getElem?_append_right (Nat.le_refl _), Nat.sub_self] at h2
      rw [List.getElem?_append_right (by rw [r.len]; exact Nat.le_refl _), r.len, Nat.sub_self] at h1
      cases h1
      cases h2
      exact ⟨u, upd_same, ho.le le⟩
  · intro m
    rcases List.mem_append.mp m with m | m
    · exact h2 m
    · rw [List.mem_singleton] at m
      subst m
      rw [h1] at e
      cases e
/-- an object of the small heap changes -/
theorem Hr.set (r : Hr K mg W h H) {n : Nat} {a : Addr} {o : MO} {u : HO} (hn : W.ρ[n]? = some a) (ho : OR K mg W.F W.ρ o u) : Hr K mg W (h.set n o) (upd H a u) ∧ Ex W H W (upd H a u) := by
  have am : a ∈ W.ρ := List.mem_of_getElem? hn
  refine ⟨⟨r.nd, by rw [List.length_set]; exact r.len, fun b v h1 => ?_, r.nf, fun m b o' h1 h2 => ?_⟩, Wd.le.refl W, fun b v h1 h2 h3 => ⟨?_, h2, h3⟩⟩
  · rw [upd_ne]
    · exact r.fz b v h1
    · rintro rfl
      rw [r.nf b am] at h1
      cases h1
  · by_cases z : m = n
    · subst z
      rw [hn] at h1
      cases h1
      have hl : m < h.length := by
        have := (List.getElem?_eq_some_iff.mp h2).1
        rw [List.length_set] at this
        exact this
      rw [List.getElem?_set_self hl] at h2
      cases h2
      exact ⟨u, upd_same, ho⟩
    · rw [List.getElem?_set_ne (Ne.symm z)] at h2
      obtain ⟨v, h3, h4⟩ := r.ob m b o' h1 h2
      refine ⟨v, ?_, h4⟩
      rw [upd_ne]
      · exact h3
      · rintro rfl
        obtain ⟨l1, e1⟩ := List.getElem?_eq_some_iff.mp h1
        obtain ⟨l2, e2⟩ := List.getElem?_eq_some_iff.mp hn
        exact z ((List.getElem_inj r.nd).mp (e1.trans e2.symm))
  · rw [upd_ne]
    · exact h1
    · rintro rfl
      exact h2 am
theorem VR.to {v : MV} {x : V} (r : VR K mg W.F W.ρ v x) {W' : Wd} {H' : Hp} (e : Ex W H W' H') : VR K mg W'.F W'.ρ v x := r.le e.le
theorem VRs.to {v : List MV} {x : List V} (r : VRs K mg W.F W.ρ v x) {W' : Wd} {H' : Hp} (e : Ex W H W' H') : VRs K mg W'.F W'.ρ v x := r.le e.le
theorem FR.to {v : Fs} {x : List (Str × V)} (r : FR K mg W.F W.ρ v x) {W' : Wd} {H' : Hp} (e : Ex W H W' H') : FR K mg W'.F W'.ρ v x := r.le e.le
end
/-! ### slots -/
abbrev EI := Option (Addr × Value × Option Addr)
def SlV (K : PySem.W.Frag) (mg : Str → Option Value) (ei : EI) (W : Wd) : Sl → Option V → Prop
  | .non, _ => True
  | .val v, x => ∃ y, x = some y ∧ VR K mg W.F W.ρ v y
  | .err c fs, x => ∃ e C d gs, x = some (.ref e) ∧ ei = some (e, .ref C, some d) ∧ mg c = some (.ref C) ∧ W.F d = some (.xd gs) ∧ FR K mg W.F W.ρ fs gs
structure Sr (K : PySem.W.Frag) (mg : Str → Option Value) (ei : EI) (W : Wd) (s : Sm) (σ : L2.St) : Prop where
  len : s.length = σ.length
  sl : ∀ (i : Nat) (a : Sl) (x : Option V), s[i]? = some a → σ[i]? = some x → SlV K mg ei W a x
section
variable {K : PySem.W.Frag} {mg : Str → Option Value} {ei : EI} {W W' : Wd} {s : Sm} {σ : L2.St} {H H' : Hp}
theorem SlV.le {a : Sl} {x : Option V} (r : SlV K mg ei W a x) (l : W.le W') : SlV K mg ei W' a x := by
  cases a with
  | non => trivial
  | val v =>
    obtain ⟨y, e, r⟩ := r
    exact ⟨y, e, r.le l⟩
  | err c fs =>
    obtain ⟨e, C, d, gs, h1, h2, h3, h4, h5⟩ := r
    exact ⟨e, C, d, gs, h1, h2, h3, l.fz _ _ h4, h5.le l⟩
theorem Sr.le (r : Sr K mg ei W s σ) (l : W.le W') : Sr K mg ei W' s σ := ⟨r.len, fun i a x h1 h2 => (r.sl i a x h1 h2).le l⟩
theorem Sr.to (r : Sr K mg ei W s σ) (l : Ex W H W' H') : Sr K mg ei W' s σ := r.le l.le
theorem Sr.set (r : Sr K mg ei W s σ) {i : Nat} {a : Sl} {x : Option V} (h : SlV K mg ei W a x) : Sr K mg ei W (s.set i a) (σ.set i x) := by
  refine ⟨by rw [List.length_set, List.length_set]; exact r.len, fun j b y h1 h2 => ?_⟩
  by_cases z : j = i
  · subst z
    have l1 := (List.getElem?_eq_some_iff.mp h1).1
    have l2 := (List.getElem?_eq_some_iff.mp h2).1
    rw [List.length_set] at l1 l2
    rw [List.getElem?_set_self l1] at h1
    rw [List.getElem?_set_self l2] at h2
    cases h1
    cases h2
    exact h
  · rw [List.getElem?_set_ne (Ne.symm z)] at h1 h2
    exact r.sl j b y h1 h2
end
/-! ### readings -/
section
variable (K : PySem.W.Frag) (mg : Str → Option Value) (ei : EI) (Wx : WX)
def AfR {α β : Type} (rel : Wd → α → β → Prop) (W : Wd) (σ : L2.St) (H : Hp) (Q : β → Hp → Prop) : R α → Prop
  | .ok a h' => ∀ W' H' x, Ex W H W' H' → Hr K mg W' h' H' → rel W' a x → Q x H'
  | .exc c fs h' => ∀ W' H' C d gs, Ex W H W' H' → Hr K mg W' h' H' → mg c = some (.ref C) → W'.F d = some (.xd gs) → FR K mg W'.F W'.ρ fs gs → Wx (.ref C) (some d) σ H'
  | .bad => False
def tG {α β : Type} (rel : Wd → α → β → Prop) (m : Sm → MH → R α) : L2.St → Hp → (β → Hp → Prop) → Prop := fun σ H Q =>
  ∃ W s h, Hr K mg W h H ∧ Sr K mg ei W s σ ∧ AfR K mg Wx rel W σ H Q (m s h)
abbrev relV : Wd → MV → V → Prop := fun W v x => VR K mg W.F W.ρ v x
abbrev relVs : Wd → List MV → List V → Prop := fun W v x => VRs K mg W.F W.ρ v x
abbrev relB : Wd → Bool → Bool → Prop := fun _ a b => a = b
abbrev ME := Sm → MH → R MV
abbrev MA := Sm → MH → R (List MV)
abbrev MT := Sm → MH → R Bool
abbrev tE (m : ME) : TE := tG K mg ei Wx (relV K mg) m
abbrev tA (m : MA) : TA := tG K mg ei Wx (relVs K mg) m
abbrev tT (m : MT) : TT := tG K mg ei Wx relB m
end
section
variable {K : PySem.W.Frag} {mg : Str → Option Value} {ei : EI} {Wx : WX} {α β γ δ : Type} {rel : Wd → α → β → Prop} {rel1 : Wd → γ → δ → Prop} {W : Wd} {s : Sm} {σ : L2.St} {h : MH} {H : Hp} {Q : β → Hp → Prop}
theorem AfR.mono {r : R α} {W0 : Wd} {H0 : Hp} (e : Ex W0 H0 W H) (a : AfR K mg Wx rel W0 σ H0 Q r) : AfR K mg Wx rel W σ H Q r := by
  cases r with
  | ok v h' => exact fun W' H' x e1 => a W' H' x (e.trans e1)
  | exc c fs h' => exact fun W' H' C d gs e1 => a W' H' C d gs (e.trans e1)
  | bad => exact a
theorem AfR.post {r : R α} {Q' : β → Hp → Prop} (a : AfR K mg Wx rel W σ H Q r) (k : ∀ x H', Q x H' → Q' x H') : AfR K mg Wx rel W σ H Q' r := by
  cases r with
  | ok v h' => exact fun W' H' x e1 e2 e3 => k _ _ (a W' H' x e1 e2 e3)
  | exc c fs h' => exact a
  | bad => exact a
theorem tG.post {m : Sm → MH → R α} {Q' : β → Hp → Prop} (a : tG K mg ei Wx rel m σ H Q) (k : ∀ x H', Q x H' → Q' x H') : tG K mg ei Wx rel m σ H Q' := by
  obtain ⟨W, s, h, h1, h2, h3⟩ := a
  exact ⟨W, s, h, h1, h2, h3.post k⟩
/-- the first part of a piece -/
theorem tG_bind {m : Sm → MH → R γ} {k : γ → MH → R α} (hr : Hr K mg W h H) (sr : Sr K mg ei W s σ) (a : AfR K mg Wx rel W σ H Q ((m s h).bind k)) :
    tG K mg ei Wx rel1 m σ H fun x H1 => ∃ W1 v h1, Ex W H W1 H1 ∧ Hr K mg W1 h1 H1 ∧ Sr K mg ei W1 s σ ∧ rel1 W1 v x ∧ AfR K mg Wx rel W1 σ H1 Q (k v h1) := by
  refine ⟨W, s, h, hr, sr, ?_⟩
  cases e : m s h with
  | ok v h1 =>
    rw [e] at a
    exact fun W1 H1 x e1 e2 e3 => ⟨W1, v, h1, e1, e2, sr.to e1, e3, a.mono e1⟩
  | exc c fs h1 =>
    rw [e] at a
    exact a
  | bad =>
    rw [e] at a
    exact a
end
theorem PEi {X : Cx} {e : Expr} {t t' : TE} (h : PE X e t) (k : ∀ σ H Q, t' σ H Q → t σ H Q) : PE X e t' := ⟨fun pins s σ H Q I a => h.run pins s σ H Q I (k σ H Q a)⟩
theorem PTi {X : Cx} {e : Expr} {t t' : TT} (h : PT X e t) (k : ∀ σ H Q, t' σ H Q → t σ H Q) : PT X e t' := ⟨fun pins s σ H Q I a => h.run pins s σ H Q I (k σ H Q a)⟩
theorem PWi {X : Cx} {e : Expr} {t t' : TT} (h : PW X e t) (k : ∀ σ H Q, t' σ H Q → t σ H Q) : PW X e t' := ⟨fun w pins s σ H Q I a => h.run w pins s σ H Q I (k σ H Q a)⟩
theorem PAi {X : Cx} {e : List Expr} {t t' : TA} (h : PA X e t) (k : ∀ σ H Q, t' σ H Q → t σ H Q) : PA X e t' := ⟨fun pos pins s σ H Q I a => h.run pos pins s σ H Q I (k σ H Q a)⟩
theorem PSi {X : Cx} {e : Stmt} {t t' : TS} (h : PS X e t) (k : ∀ D σ H, t' D σ H → t D σ H) : PS X e t' := ⟨fun pins s σ H D I a => h.run pins s σ H D I (k D σ H a)⟩
theorem PSsi {X : Cx} {e : List Stmt} {t t' : TS} (h : PSs X e t) (k : ∀ D σ H, t' D σ H → t D σ H) : PSs X e t' := ⟨fun pins s σ H D I a => h.run pins s σ H D I (k D σ H a)⟩
end M
set_option Elab.async false
set_option linter.all false
set_option maxRecDepth 100000
set_option maxHeartbeats 4000000
namespace M
open PySem PySem.Spec L2 G
/-! ### reading values -/
/-- the items of a list or tuple; true: a tuple -/
def seqOf (h : MH) : MV → Option (Bool × List MV)
  | .tup xs => some (true, xs)
  | .lst xs => some (false, xs)
  | .scr xs => some (false, xs)
  | .ref n => match h[n]? with
    | some (.lst xs) => some (false, xs)
    | _ => none
  | _ => none
def lstOf (h : MH) : MV → Option (List MV)
  | .lst xs => some xs
  | .ref n => match h[n]? with
    | some (.lst xs) => some xs
    | _ => none
  | _ => none
mutual
/-- plain data -/
def datV : MV → Option PyData
  | .non => some .none
  | .bl b => some (.bool b)
  | .int i => some (.int i)
  | .str x => some (.str x)
  | .tup xs => (datVs xs).map .tuple
  | .lst xs => (datVs xs).map .list
  | .scr xs => (datVs xs).map .list
  | _ => none
def datVs : List MV → Option (List PyData)
  | [] => some []
  | v :: vs => (datV v).bind fun d => (datVs vs).map (d :: ·)
end
def dat (h : MH) : MV → Option PyData
  | .ref n => match h[n]? with
    | some (.lst xs) => (datVs xs).map .list
    | _ => none
  | v => datV v
def flatM : MV → Bool
  | .non => true
  | .bl _ => true
  | .int _ => true
  | .str _ => true
  | _ => false
/-- == of flat values -/
def eqF : MV → MV → Bool
  | .non, .non => true
  | .bl a, .bl b => a == b
  | .bl a, .int b => (if a then 1 else 0) == b
  | .int a, .bl b => a == (if b then 1 else 0)
  | .int a, .int b => a == b
  | .str a, .str b => a == b
  | _, _ => false
section
variable {K : PySem.W.Frag} {mg : Str → Option Value} {W : Wd} {h : MH} {H : Hp}
theorem Hr.sqt (r : Hr K mg W h H) {a : Addr} {ys : List V} (e : SqT K W.F a ys) : SqT K H a ys := sqt_le r.fz e
theorem Hr.sql (r : Hr K mg W h H) {a : Addr} {ys : List V} (e : SqL K W.F a ys) : SqL K H a ys := sql_le r.fz e
theorem seq_at (r : Hr K mg W h H) {v : MV} {x : V} (vr : VR K mg W.F W.ρ v x) {b : Bool} {xs : List MV} (e : seqOf h v = some (b, xs)) : ∃ a ys, x = .ref a ∧ VRs K mg W.F W.ρ xs ys ∧ (b = true → SqT K H a ys) ∧ (b = false → SqL K H a ys) := by
  cases vr with
  | tup h1 h2 => cases e; exact ⟨_, _, rfl, h2, fun _ => r.sqt h1, fun z => (nomatch z)⟩
  | lst h1 h2 => cases e; exact ⟨_, _, rfl, h2, fun z => (nomatch z), fun _ => sl_of (r.fz _ _ h1)⟩
  | scr h1 h2 => cases e; exact ⟨_, _, rfl, h2, fun z => (nomatch z), fun _ => r.sql h1⟩
  | @ref n a h1 =>
    unfold seqOf at e
    dsimp only at e
    split at e
    · rename_i ys he
      cases e
      obtain ⟨a', u, e1, e2, e3⟩ := r.at he
      rw [h1] at e1
      cases e1
      cases e3 with
      | lst e3 => exact ⟨_, _, rfl, e3, fun z => (nomatch z), fun _ => sl_of e2⟩
    · cases e
  | _ => cases e
theorem seq_or (r : Hr K mg W h H) {v : MV} {x : V} (vr : VR K mg W.F W.ρ v x) {b : Bool} {xs : List MV} (e : seqOf h v = some (b, xs)) : ∃ a ys, x = .ref a ∧ VRs K mg W.F W.ρ xs ys ∧ (SqL K H a ys ∨ SqT K H a ys) := by
  obtain ⟨a, ys, h1, h2, h3, h4⟩ := seq_at r vr e
  cases b with
  | true => exact ⟨a, ys, h1, h2, .inr (h3 rfl)⟩
  | false => exact ⟨a, ys, h1, h2, .inl (h4 rfl)⟩
theorem lst_at (r : Hr K mg W h H) {v : MV} {x : V} (vr : VR K mg W.F W.ρ v x) {xs : List MV} (e : lstOf h v = some xs) : ∃ a ys, x = .ref a ∧ VRs K mg W.F W.ρ xs ys ∧ H a = some (.lst ys) := by
  cases vr with
  | lst h1 h2 => cases e; exact ⟨_, _, rfl, h2, r.fz _ _ h1⟩
  | @ref n a h1 =>
    unfold lstOf at e
    dsimp only at e
    split at e
    · rename_i ys he
      cases e
      obtain ⟨a', u, e1, e2, e3⟩ := r.at he
      rw [h1] at e1
      cases e1
      cases e3 with
      | lst e3 => exact ⟨_, _, rfl, e3, e2⟩
    · cases e
  | _ => cases e
mutual
theorem dp_of (r : Hr K mg W h H) : ∀ {v : MV} {x : V} {d : PyData}, VR K mg W.F W.ρ v x → datV v = some d → Dp K H x d
  | _, _, _, .non, e => by cases e; exact .non
  | _, _, _, .bl b, e => by cases e; exact .bl b
  | _, _, _, .int i, e => by cases e; exact .int i
  | _, _, _, .str x, e => by cases e; exact .str x
  | _, _, _, .tup h1 h2, e => by
    obtain ⟨ds, e1, rfl⟩ := Option.map_eq_some_iff.mp e
    exact .tup (r.sqt h1) (dps_of r h2 e1)
  | _, _, _, .lst h1 h2, e => by
    obtain ⟨ds, e1, rfl⟩ := Option.map_eq_some_iff.mp e
    exact .lst (sl_of (r.fz _ _ h1)) (dps_of r h2 e1)
  | _, _, _, .scr h1 h2, e => by
    obtain ⟨ds, e1, rfl⟩ := Option.map_eq_some_iff.mp e
    exact .lst (r.sql h1) (dps_of r h2 e1)
  | _, _, _, .ty _, e => by cases e
  | _, _, _, .dct _ _, e => by cases e
  | _, _, _, .ref _, e => by cases e
  | _, _, _, .gl _, e => by cases e
  | _, _, _, .er _ _ _ _, e => by cases e
  | _, _, _, .obj _ _ _, e => by cases e
theorem dps_of (r : Hr K mg W h H) : ∀ {vs : List MV} {xs : List V} {ds : List PyData}, VRs K mg W.F W.ρ vs xs → datVs vs = some ds → DpAll K H xs ds
  | _, _, _, .nil, e => by cases e; exact .nil
  | _, _, _, .cons h1 h2, e => by
    obtain ⟨d, e1, e2⟩ := Option.bind_eq_some_iff.mp e
    obtain ⟨ds, e3, rfl⟩ := Option.map_eq_some_iff.mp e2
    exact .cons (dp_of r h1 e1) (dps_of r h2 e3)
end
theorem dp_at (r : Hr K mg W h H) {v : MV} {x : V} {d : PyData} (vr : VR K mg W.F W.ρ v x) (e : dat h v = some d) : Dp K H x d := by
  cases vr with
  | @ref n a h1 =>
    unfold dat at e
    dsimp only at e
    split at e
    · rename_i ys he
      obtain ⟨ds, e4, rfl⟩ := Option.map_eq_some_iff.mp e
      obtain ⟨a', u, e1, e2, e3⟩ := r.at he
      rw [h1] at e1
      cases e1
      cases e3 with
      | lst e3 => exact .lst (sl_of e2) (dps_of r e3 e4)
    · cases e
  | non => exact dp_of r .non e
  | bl b => exact dp_of r (.bl b) e
  | int i => exact dp_of r (.int i) e
  | str i => exact dp_of r (.str i) e
  | ty i => exact dp_of r (.ty i) e
  | tup a b => exact dp_of r (.tup a b) e
  | lst a b => exact dp_of r (.lst a b) e
  | scr a b => exact dp_of r (.scr a b) e
  | dct a b => exact dp_of r (.dct a b) e
  | gl a => exact dp_of r (.gl a) e
  | er a b c d => cases e
  | obj a b c => cases e
theorem flat_of {v : MV} {x : V} (vr : VR K mg W.F W.ρ v x) (e : flatM v = true) : flatV x = true := by
  cases vr <;> simp [flatM] at e <;> rfl
theorem eqF_of {v w : MV} {x y : V} (vr : VR K mg W.F W.ρ v x) (wr : VR K mg W.F W.ρ w y) (e1 : flatM v = true) (e2 : flatM w = true) : eqV x y = eqF v w := by
  cases vr <;> simp [flatM] at e1 <;> cases wr <;> simp [flatM] at e2 <;> rfl
theorem flats_of {vs : List MV} {xs : List V} (vr : VRs K mg W.F W.ρ vs xs) (e : vs.all flatM = true) : xs.all flatV = true := by
  induction vs generalizing xs with
  | nil => cases vr; rfl
  | cons v vs ih =>
    cases vr with
    | cons h1 h2 =>
      rw [List.all_cons, Bool.and_eq_true] at e ⊢
      exact ⟨flat_of h1 e.1, ih h2 e.2⟩
def inF (v : MV) (vs : List MV) : Bool := vs.any fun w => eqF w v
theorem inF_of {v : MV} {x : V} {vs : List MV} {xs : List V} (vr : VR K mg W.F W.ρ v x) (r : VRs K mg W.F W.ρ vs xs) (e1 : flatM v = true) (e : vs.all flatM = true) : inV x xs = inF v vs := by
  unfold inV inF
  induction vs generalizing xs with
  | nil => cases r; rfl
  | cons w vs ih =>
    cases r with
    | cons h1 h2 =>
      rw [List.all_cons, Bool.and_eq_true] at e
      rw [List.any_cons, List.any_cons, eqF_of h1 vr e.1 e1, ih h2 e.2]
end
/-! ### new things -/
def newL (md : Bool) (xs : List MV) (h : MH) : R MV := if xs.length ≤ 1000000 then (if md then .ok (.ref h.length) (h ++ [.lst xs]) else .ok (.lst xs) h) else .bad
def newT (xs : List MV) (h : MH) : R MV := if xs.length ≤ 1000000 then .ok (.tup xs) h else .bad
section
variable {K : PySem.W.Frag} {mg : Str → Option Value} {Wx : WX} {W : Wd} {h : MH} {H : Hp} {σ : L2.St} {Q : VK}
theorem newL_go {md : Bool} {xs : List MV} {ys : List V} (r : Hr K mg W h H) (vr : VRs K mg W.F W.ρ xs ys) (a : AfR K mg Wx (relV K mg) W σ H Q (newL md xs h)) : ys.length ≤ sizeLine ∧ ∀ p, H p = none → Q (.ref p) (upd H p (.lst ys)) := by
  unfold newL at a
  split at a
  · rename_i hl
    refine ⟨by rw [← vr.length]; exact Nat.le_trans hl (by decide), fun p hp => ?_⟩
    cases md with
    | true =>
      obtain ⟨h1, h2⟩ := r.newR (o := .lst xs) (u := .lst ys) hp (.lst vr)
      refine a _ _ _ h2 h1 (.ref ?_)
      show (W.ρ ++ [p])[h.length]? = some p
      rw [← r.len, List.getElem?_append_right (Nat.le_refl _), Nat.sub_self]
      rfl
    | false =>
      obtain ⟨h1, h2⟩ := r.newF (u := .lst ys) hp
      exact a _ _ _ h2 h1 (.lst upd_same (vr.to h2))
  · exact a.elim
theorem newT_go {xs : List MV} {ys : List V} (r : Hr K mg W h H) (vr : VRs K mg W.F W.ρ xs ys) (a : AfR K mg Wx (relV K mg) W σ H Q (newT xs h)) : ys.length ≤ sizeLine ∧ ∀ p, H p = none → Q (.ref p) (upd H p (.tup ys)) := by
  unfold newT at a
  split at a
  · rename_i hl
    refine ⟨by rw [← vr.length]; exact Nat.le_trans hl (by decide), fun p hp => ?_⟩
    obtain ⟨h1, h2⟩ := r.newF (u := .tup ys) hp
    exact a _ _ _ h2 h1 (.tup (st_of upd_same) (vr.to h2))
  · exact a.elim
end
/-! ### expressions -/
section
variable {X : Cx} {K : PySem.W.Frag} {mg : Str → Option Value} {ei : EI} {Wx : WX} {a b : Expr} {es : List Expr} {pos : Pos} {ma mb mc : ME} {mas : MA}
def mVar (i : Nat) : ME := fun s h => match s[i]? with
  | some (.val v) => .ok v h
  | _ => .bad
def mK (v : MV) : ME := fun _ h => .ok v h
theorem m_var {i : Nat} {x : Str} (p : PE X (.Name x pos) (tVar i)) : PE X (.Name x pos) (tE K mg ei Wx (mVar i)) := by
  refine PEi p fun σ H Q t => ?_
  obtain ⟨W, s, h, hr, sr, t⟩ := t
  unfold mVar at t
  split at t
  · rename_i v e
    have hl := (List.getElem?_eq_some_iff.mp e).1
    have hl2 : i < σ.length := by rw [← sr.len]; exact hl
    obtain ⟨y, e2, vr⟩ := sr.sl i _ _ e (List.getElem?_eq_getElem hl2)
    exact ⟨y, (List.getElem?_eq_getElem hl2).trans (congrArg some e2), t W H y (Ex.refl W H) hr vr⟩
  · exact t.elim
theorem m_c {v : MV} {x : V} (p : PE X a (tC x)) (r : ∀ W : Wd, VR K mg W.F W.ρ v x) : PE X a (tE K mg ei Wx (mK v)) := by
  refine PEi p fun σ H Q t => ?_
  obtain ⟨W, s, h, hr, sr, t⟩ := t
  exact t W H x (Ex.refl W H) hr (r W)
theorem m_int {i : Int} {j : Nat} : PE X (.Constant (.int i) j pos) (tE K mg ei Wx (mK (.int i))) := m_c pe_int fun _ => .int i
theorem m_bl {i : Bool} {j : Nat} : PE X (.Constant (.bool i) j pos) (tE K mg ei Wx (mK (.bl i))) := m_c pe_bl fun _ => .bl i
theorem m_str {i : Str} {j : Nat} : PE X (.Constant (.str i) j pos) (tE K mg ei Wx (mK (.str i))) := m_c pe_str fun _ => .str i
theorem m_non {j : Nat} : PE X (.Constant .none j pos) (tE K mg ei Wx (mK .non)) := m_c pe_non fun _ => .non
/-- a constant of the module -/
structure Gv (K : PySem.W.Frag) (mg : Str → Option Value) (x : Str) (v : MV) : Prop where
  ex : ∃ (u : Value) (y : V), mg x = some u ∧ RelV y u ∧ ∀ W : Wd, VR K mg W.F W.ρ v y
theorem m_glob {x : Str} {v : MV} (hg : Gl X x) (g : Gv K X.mg x v) (hd : (x == ("__debug__" : Str)) = false := by decide) : PE X (.Name x pos) (tE K X.mg ei Wx (mK v)) := by
  obtain ⟨u, y, h1, h2, h3⟩ := g.ex
  exact m_c (pe_glob hg h1 h2 hd) h3
theorem m_ty {x : Str} {n : String} (hg : Gl X x) (hm : X.mg x = none) (hv : bootBuiltins x = some (.type n)) (hn : x ≠ "__name__" := by decide) (hd : (x == ("__debug__" : Str)) = false := by decide) : PE X (.Name x pos) (tE K mg ei Wx (mK (.ty n))) :=
  m_c (pe_bltn (v := .ty n) hg hm hv rfl hn hd) fun _ => .ty n
/-! arguments -/
def mNil : MA := fun _ h => .ok [] h
def mCons (ma : ME) (mr : MA) : MA := fun s h => (ma s h).bind fun v h1 => (mr s h1).bind fun vs h2 => .ok (v :: vs) h2
theorem m_nil : PA X [] (tA K mg ei Wx mNil) := by
  refine PAi pa_nil fun σ H Q t => ?_
  obtain ⟨W, s, h, hr, sr, t⟩ := t
  exact t W H _ (Ex.refl W H) hr .nil
theorem m_cons (ha : PE X a (tE K mg ei Wx ma)) (hr : PA X es (tA K mg ei Wx mas)) (hs : starEach (a :: es) X.env = (false, eval a X.env) :: starEach es X.env := by rfl) : PA X (a :: es) (tA K mg ei Wx (mCons ma mas)) := by
  refine PAi (pa_cons ha hr hs) fun σ H Q t => ?_
  obtain ⟨W, s, h, hr, sr, t⟩ := t
  refine (tG_bind (rel1 := relV K mg) hr sr t).post ?_
  rintro x H1 ⟨W1, v, h1, e1, hr1, sr1, vr, t1⟩
  refine (tG_bind (rel1 := relVs K mg) hr1 sr1 t1).post ?_
  rintro xs H2 ⟨W2, vs, h2, e2, hr2, sr2, vrs, t2⟩
  exact t2 W2 H2 _ (Ex.refl W2 H2) hr2 (.cons (vr.to e2) vrs)
/-! displays -/
def mTup (m : MA) : ME := fun s h => (m s h).bind newT
def mLst (md : Bool) (m : MA) : ME := fun s h => (m s h).bind (newL md)
theorem m_tup {k : Nat} (ha : PA X es (tA K mg ei Wx mas)) : PE X (.Tuple es k pos) (tE K mg ei Wx (mTup mas)) := by
  refine PEi (pe_tup ha) fun σ H Q t => ?_
  obtain ⟨W, s, h, hr, sr, t⟩ := t
  refine (tG_bind (rel1 := relVs K mg) hr sr t).post ?_
  rintro xs H1 ⟨W1, vs, h1, e1, hr1, sr1, vr, t1⟩
  exact newT_go hr1 vr t1
theorem m_lst (md : Bool) (ha : PA X es (tA K mg ei Wx mas)) : PE X (.List es pos) (tE K mg ei Wx (mLst md mas)) := by
  refine PEi (pe_lst ha) fun σ H Q t => ?_
  obtain ⟨W, s, h, hr, sr, t⟩ := t
  refine (tG_bind (rel1 := relVs K mg) hr sr t).post ?_
  rintro xs H1 ⟨W1, vs, h1, e1, hr1, sr1, vr, t1⟩
  exact newL_go hr1 vr t1
/-! two values -/
abbrev M2 := MV → MV → MH → R MV
def r2 (K : PySem.W.Frag) (mg : Str → Option Value) (Wx : WX) (g : M2) : R2 := fun x y H Q => ∃ W v w h σ, Hr K mg W h H ∧ VR K mg W.F W.ρ v x ∧ VR K mg W.F W.ρ w y ∧ AfR K mg Wx (relV K mg) W σ H Q (g v w h)
/-- no error comes of it -/
abbrev WN : WX := fun _ _ _ _ => False
def noX {α : Type} : R α → R α
  | .exc _ _ _ => .bad
  | r => r
def mOp (g : M2) (ma mb : ME) : ME := fun s h => (ma s h).bind fun v h1 => (mb s h1).bind fun w h2 => noX (g v w h2)
theorem noX_go {α β : Type} {rel : Wd → α → β → Prop} {W : Wd} {σ : L2.St} {H : Hp} {Q : β → Hp → Prop} {r : R α} (t : AfR K mg Wx rel W σ H Q (noX r)) : AfR K mg WN rel W σ H Q r := by
  cases r with
  | ok v h => exact t
  | exc c fs h => exact t.elim
  | bad => exact t
theorem t_op {g : M2} {σ : L2.St} {H : Hp} {Q : VK} (t : tE K mg ei Wx (mOp g ma mb) σ H Q) : tOp (r2 K mg WN g) (tE K mg ei Wx ma) (tE K mg ei Wx mb) σ H Q := by
  obtain ⟨W, s, h, hr, sr, t⟩ := t
  refine (tG_bind (rel1 := relV K mg) hr sr t).post ?_
  rintro x H1 ⟨W1, v, h1, e1, hr1, sr1, vr, t1⟩
  refine (tG_bind (rel1 := relV K mg) hr1 sr1 t1).post ?_
  rintro y H2 ⟨W2, w, h2, e2, hr2, sr2, wr, t2⟩
  exact ⟨W2, v, w, h2, σ, hr2, vr.to e2, wr, noX_go t2⟩
theorem m_bin {op : Operator} {g : M2} (ho : OpR X (binaryOp op) (r2 K mg WN g)) (ha : PE X a (tE K mg ei Wx ma)) (hb : PE X b (tE K mg ei Wx mb)) : PE X (.BinOp a op b pos) (tE K mg ei Wx (mOp g ma mb)) := PEi (pe_op ho ha hb) fun _ _ _ t => t_op t
theorem m_cmp {op : CmpOp} {g : M2} (ho : OpR X (compareOp op) (r2 K mg WN g)) (ha : PE X a (tE K mg ei Wx ma)) (hb : PE X b (tE K mg ei Wx mb)) (hm : behindInMarks op b = false := by rfl) : PE X (.Compare a [op] [b] pos) (tE K mg ei Wx (mOp g ma mb)) :=
  PEi (pe_cmpR ho ha hb hm) fun _ _ _ t => t_op t
theorem m_ix {g : M2} (ho : IxR X (r2 K mg WN g)) (ha : PE X a (tE K mg ei Wx ma)) (hb : PE X b (tE K mg ei Wx mb)) (hs : PlainIx b := by exact fun _ _ => rfl) : PE X (.Subscript a b pos) (tE K mg ei Wx (mOp g ma mb)) := PEi (pe_ix ho ha hb hs) fun _ _ _ t => t_op t
/-- a test by a value that is True or False -/
def asB (r : R MV) : R Bool := r.bind fun v h => match v with
  | .bl b => .ok b h
  | _ => .bad
def mTest (m : ME) : MT := fun s h => asB (m s h)
theorem t_test {σ : L2.St} {H : Hp} {QT : Bool → Hp → Prop} (t : tT K mg ei Wx (mTest ma) σ H QT) : tE K mg ei Wx ma σ H fun x H' => ∃ k, x = .bl k ∧ QT k H' := by
  obtain ⟨W, s, h, hr, sr, t⟩ := t
  refine (tG_bind (rel1 := relV K mg) hr sr t).post ?_
  rintro x H1 ⟨W1, v, h1, e1, hr1, sr1, vr, t1⟩
  cases vr with
  | bl b => exact ⟨b, rfl, t1 W1 H1 b (Ex.refl _ _) hr1 rfl⟩
  | _ => exact t1.elim
theorem m_tcmp {op : CmpOp} {g : M2} (ho : OpR X (compareOp op) (r2 K mg WN g)) (ha : PE X a (tE K mg ei Wx ma)) (hb : PE X b (tE K mg ei Wx mb)) (hm : behindInMarks op b = false := by rfl) : PT X (.Compare a [op] [b] pos) (tT K mg ei Wx (mTest (mOp g ma mb))) := by
  refine PTi (pt_cmpR ho ha hb hm) fun σ H Q t => ?_
  obtain ⟨W, s, h, hr, sr, t⟩ := t
  refine t_op (Q := fun x H' => ∃ k, x = .bl k ∧ Q k H') ?_
  exact t_test ⟨W, s, h, hr, sr, t⟩
/-! chains: two comparisons -/
def mChain (g g' : M2) (ma mb mc : ME) : ME := fun s h => (ma s h).bind fun v h1 => (mb s h1).bind fun w h2 => (asB (noX (g v w h2))).bind fun k h3 => if k = true then (mc s h3).bind fun u h4 => noX (g' w u h4) else .ok (.bl false) h3
theorem t_chain {g g' : M2} {σ : L2.St} {H : Hp} {Q : VK} (t : tE K mg ei Wx (mChain g g' ma mb mc) σ H Q) : tChain (r2 K mg WN g) (r2 K mg WN g') (tE K mg ei Wx ma) (tE K mg ei Wx mb) (tE K mg ei Wx mc) σ H Q := by
  obtain ⟨W, s, h, hr, sr, t⟩ := t
  refine (tG_bind (rel1 := relV K mg) hr sr t).post ?_
  rintro x H1 ⟨W1, v, h1, e1, hr1, sr1, vr, t1⟩
  refine (tG_bind (rel1 := relV K mg) hr1 sr1 t1).post ?_
  rintro y H2 ⟨W2, w, h2, e2, hr2, sr2, wr, t2⟩
  refine ⟨W2, v, w, h2, σ, hr2, vr.to e2, wr, ?_⟩
  cases e : g v w h2 with
  | ok z h3 =>
    rw [e] at t2
    intro W3 H3 z' e3 hr3 zr
    cases zr with
    | bl k =>
      refine ⟨k, rfl, ?_⟩
      have t3 : AfR K mg Wx (relV K mg) W2 σ H2 Q (if k = true then (mc s h3).bind fun u h4 => noX (g' w u h4) else .ok (.bl false) h3) := t2
      cases k with
      | true =>
        show tE K mg ei Wx mc σ H3 _
        refine (tG_bind (rel1 := relV K mg) hr3 (sr2.to e3) (t3.mono e3)).post ?_
        rintro u H4 ⟨W4, u', h4, e4, hr4, sr4, ur, t4⟩
        exact ⟨W4, w, u', h4, σ, hr4, (wr.to e3).to e4, ur, noX_go t4⟩
      | false => exact t3 W3 H3 _ e3 hr3 (.bl false)
    | _ => exact t2.elim
  | exc c fs h3 =>
    rw [e] at t2
    exact t2.elim
  | bad =>
    rw [e] at t2
    exact t2.elim
theorem m_chain {op op' : CmpOp} {g g' : M2} {c : Expr} (ho : OpR X (compareOp op) (r2 K mg WN g)) (ho' : OpR X (compareOp op') (r2 K mg WN g')) (p : ∀ {r r' : R2} {ta tb tc : TE}, OpR X (compareOp op) r → OpR X (compareOp op') r' → PE X a ta → PE X b tb → PE X c tc → PE X (.Compare a [op, op'] [b, c] pos) (tChain r r' ta tb tc))
    (ha : PE X a (tE K mg ei Wx ma)) (hb : PE X b (tE K mg ei Wx mb)) (hc : PE X c (tE K mg ei Wx mc)) : PE X (.Compare a [op, op'] [b, c] pos) (tE K mg ei Wx (mChain g g' ma mb mc)) := PEi (p ho ho' ha hb hc) fun _ _ _ t => t_chain t
/-! and, or, not, if as values -/
def mAnd (ma mb : ME) : ME := fun s h => (asB (ma s h)).bind fun k h1 => if k = true then mb s h1 else .ok (.bl false) h1
def mOr (ma mb : ME) : ME := fun s h => (asB (ma s h)).bind fun k h1 => if k = true then .ok (.bl true) h1 else mb s h1
def mNot (ma : ME) : ME := fun s h => (asB (ma s h)).bind fun k h1 => .ok (.bl (!k)) h1
def mIf (mt : MT) (ma mb : ME) : ME := fun s h => (mt s h).bind fun k h1 => if k = true then ma s h1 else mb s h1
theorem m_and {r : List Expr} (ha : PE X a (tE K mg ei Wx ma)) (hb : PE X (.BoolOp .And (b :: r) pos) (tE K mg ei Wx mb)) : PE X (.BoolOp .And (a :: b :: r) pos) (tE K mg ei Wx (mAnd ma mb)) := by
  refine PEi (pe_and ha hb) fun σ H Q t => ?_
  obtain ⟨W, s, h, hr, sr, t⟩ := t
  refine (tG_bind (m := mTest ma) (rel1 := relB) hr sr t |> t_test).post ?_
  rintro x H1 ⟨k, rfl, W1, v, h1, e1, hr1, sr1, rfl, t1⟩
  refine ⟨v, rfl, ?_⟩
  cases v with
  | true => exact ⟨W1, s, h1, hr1, sr1, t1⟩
  | false => exact t1 W1 H1 _ (Ex.refl _ _) hr1 (.bl false)
theorem m_or {r : List Expr} (ha : PE X a (tE K mg ei Wx ma)) (hb : PE X (.BoolOp .Or (b :: r) pos) (tE K mg ei Wx mb)) : PE X (.BoolOp .Or (a :: b :: r) pos) (tE K mg ei Wx (mOr ma mb)) := by
  refine PEi (pe_or ha hb) fun σ H Q t => ?_
  obtain ⟨W, s, h, hr, sr, t⟩ := t
  refine (tG_bind (m := mTest ma) (rel1 := relB) hr sr t |> t_test).post ?_
  rintro x H1 ⟨k, rfl, W1, v, h1, e1, hr1, sr1, rfl, t1⟩
  refine ⟨v, rfl, ?_⟩
  cases v with
  | false => exact ⟨W1, s, h1, hr1, sr1, t1⟩
  | true => exact t1 W1 H1 _ (Ex.refl _ _) hr1 (.bl true)
theorem m_not (ha : PE X a (tE K mg ei Wx ma)) : PE X (.UnaryOp .Not a pos) (tE K mg ei Wx (mNot ma)) := by
  refine PEi (pe_not ha) fun σ H Q t => ?_
  obtain ⟨W, s, h, hr, sr, t⟩ := t
  refine (tG_bind (m := mTest ma) (rel1 := relB) hr sr t |> t_test).post ?_
  rintro x H1 ⟨k, rfl, W1, v, h1, e1, hr1, sr1, rfl, t1⟩
  exact ⟨v, rfl, t1 W1 H1 _ (Ex.refl _ _) hr1 (.bl _)⟩
theorem m_if {c : Expr} {mt : MT} (hc : PT X c (tT K mg ei Wx mt)) (ha : PE X a (tE K mg ei Wx ma)) (hb : PE X b (tE K mg ei Wx mb)) : PE X (.IfExp c a b pos) (tE K mg ei Wx (mIf mt ma mb)) := by
  refine PEi (pe_ifExp hc ha hb) fun σ H Q t => ?_
  obtain ⟨W, s, h, hr, sr, t⟩ := t
  refine (tG_bind (rel1 := relB) hr sr t).post ?_
  rintro x H1 ⟨W1, v, h1, e1, hr1, sr1, rfl, t1⟩
  cases v with
  | true => exact ⟨W1, s, h1, hr1, sr1, t1⟩
  | false => exact ⟨W1, s, h1, hr1, sr1, t1⟩
theorem m_one {op : BoolOp} (ha : PE X a (tE K mg ei Wx ma)) : PE X (.BoolOp op [a] pos) (tE K mg ei Wx ma) := pe_one ha
/-! tests -/
def mTAnd (mt mu : MT) : MT := fun s h => (mt s h).bind fun k h1 => if k = true then mu s h1 else .ok false h1
def mTOr (mt mu : MT) : MT := fun s h => (mt s h).bind fun k h1 => if k = true then .ok true h1 else mu s h1
def mTNot (mt : MT) : MT := fun s h => (mt s h).bind fun k h1 => .ok (!k) h1
variable {mt mu : MT}
theorem m_tand1 (ha : PT X a (tT K mg ei Wx mt)) : PW X (.BoolOp .And [a] pos) (tT K mg ei Wx mt) := pw_and1 ha
theorem m_tor1 (ha : PT X a (tT K mg ei Wx mt)) : PW X (.BoolOp .Or [a] pos) (tT K mg ei Wx mt) := pw_or1 ha
theorem m_tand {r : List Expr} (ha : PT X a (tT K mg ei Wx mt)) (hb : PW X (.BoolOp .And (b :: r) pos) (tT K mg ei Wx mu)) : PW X (.BoolOp .And (a :: b :: r) pos) (tT K mg ei Wx (mTAnd mt mu)) := by
  refine PWi (pw_and ha hb) fun σ H Q t => ?_
  obtain ⟨W, s, h, hr, sr, t⟩ := t
  refine (tG_bind (rel1 := relB) hr sr t).post ?_
  rintro x H1 ⟨W1, v, h1, e1, hr1, sr1, rfl, t1⟩
  cases v with
  | true => exact ⟨W1, s, h1, hr1, sr1, t1⟩
  | false => exact t1 W1 H1 _ (Ex.refl _ _) hr1 rfl
theorem m_tor {r : List Expr} (ha : PT X a (tT K mg ei Wx mt)) (hb : PW X (.BoolOp .Or (b :: r) pos) (tT K mg ei Wx mu)) : PW X (.BoolOp .Or (a :: b :: r) pos) (tT K mg ei Wx (mTOr mt mu)) := by
  refine PWi (pw_or ha hb) fun σ H Q t => ?_
  obtain ⟨W, s, h, hr, sr, t⟩ := t
  refine (tG_bind (rel1 := relB) hr sr t).post ?_
  rintro x H1 ⟨W1, v, h1, e1, hr1, sr1, rfl, t1⟩
  cases v with
  | false => exact ⟨W1, s, h1, hr1, sr1, t1⟩
  | true => exact t1 W1 H1 _ (Ex.refl _ _) hr1 rfl
theorem m_tnot (ha : PT X a (tT K mg ei Wx mt)) : PT X (.UnaryOp .Not a pos) (tT K mg ei Wx (mTNot mt)) := by
  refine PTi (pt_not ha) fun σ H Q t => ?_
  obtain ⟨W, s, h, hr, sr, t⟩ := t
  refine (tG_bind (rel1 := relB) hr sr t).post ?_
  rintro x H1 ⟨W1, v, h1, e1, hr1, sr1, rfl, t1⟩
  exact t1 W1 H1 _ (Ex.refl _ _) hr1 rfl
/-- any value as a test -/
def truth (h : MH) : MV → Option Bool
  | .non => some false
  | .bl b => some b
  | .int i => some (i != 0)
  | .str x => if x.length ≤ 1000000 then some ((x.length : Int) != 0) else none
  | .dct kvs => none
  | .ref n => match h[n]? with
    | some (.lst xs) => some (!xs.isEmpty)
    | some (.dct xs) => some (!xs.isEmpty)
    | _ => none
  | v => (seqOf h v).map fun p => !p.2.isEmpty
def mTru (m : ME) : MT := fun s h => (m s h).bind fun v h1 => match truth h1 v with
  | some b => .ok b h1
  | none => .bad
theorem empty_eq {W : Wd} {xs : List MV} {ys : List V} (r : VRs K mg W.F W.ρ xs ys) : xs.isEmpty = ys.isEmpty := by cases r <;> rfl
theorem m_tru (hK : X.K = K) (ha : PE X a (tE K mg ei Wx ma)) (he : ∀ whole, isTrue a X.env whole = (do let v ← whole; standAt a.pos; holding [v] (truthy v)) := by intro _; rfl) : PT X a (tT K mg ei Wx (mTru ma)) := by
  refine PTi (pt_truth ha he) fun σ H Q t => ?_
  obtain ⟨W, s, h, hr, sr, t⟩ := t
  refine (tG_bind (rel1 := relV K mg) hr sr t).post ?_
  rintro x H1 ⟨W1, v, h1, e1, hr1, sr1, vr, t1⟩
  subst hK
  cases e : truth h1 v with
  | none =>
    rw [e] at t1
    exact t1.elim
  | some b =>
    rw [e] at t1
    refine ⟨b, ?_, t1 W1 H1 b (Ex.refl _ _) hr1 rfl⟩
    cases vr with
    | non => cases e; rfl
    | bl b => cases e; rfl
    | int i => cases e; rfl
    | str x =>
      simp only [truth] at e
      split at e
      · rename_i hl
        cases e
        exact ⟨Nat.le_trans hl (by decide), rfl⟩
      · cases e
    | ty n => cases e
    | gl n => cases e
    | er _ _ _ _ => cases e
    | obj _ _ _ => cases e
    | dct _ _ => cases e
    | tup q1 q2 =>
      cases e
      exact .inr (.inl ⟨_, hr1.sqt q1, congrArg not (empty_eq q2)⟩)
    | lst q1 q2 =>
      cases e
      exact .inl ⟨_, sl_of (hr1.fz _ _ q1), congrArg not (empty_eq q2)⟩
    | scr q1 q2 =>
      cases e
      exact .inl ⟨_, hr1.sql q1, congrArg not (empty_eq q2)⟩
    | @ref n p q1 =>
      simp only [truth] at e
      split at e
      · rename_i xs he
        cases e
        obtain ⟨a', u, z1, z2, z3⟩ := hr1.at he
        rw [q1] at z1
        cases z1
        cases z3 with
        | lst z3 => exact .inl ⟨_, sl_of z2, congrArg not (empty_eq z3)⟩
      · rename_i xs he
        cases e
        obtain ⟨a', u, z1, z2, z3⟩ := hr1.at he
        rw [q1] at z1
        cases z1
        cases z3 with
        | dct z3 => exact .inr (.inr ⟨_, z2, by cases z3 <;> rfl⟩)
      · cases e
end
end M
set_option Elab.async false
set_option linter.all false
set_option maxRecDepth 100000
set_option maxHeartbeats 4000000
namespace M
open PySem PySem.Spec L2 G
theorem OpRi {X : Cx} {f : Value → Value → Sem Value} {r r' : R2} (h : OpR X f r) (k : ∀ x y H Q, r' x y H Q → r x y H Q) : OpR X f r' := fun pins s σ H x y v u Q I rx ry q => h pins s σ H x y v u Q I rx ry (k x y H Q q)
theorem IxRi {X : Cx} {r r' : R2} (h : IxR X r) (k : ∀ x y H Q, r' x y H Q → r x y H Q) : IxR X r' := fun e1 e2 pins s σ H x y v u Q I rx ry q => h e1 e2 pins s σ H x y v u Q I rx ry (k x y H Q q)
theorem CallRi {X : Cx} {f : Value} {r r' : List V → Hp → VK → Prop} (h : CallR X f r) (k : ∀ xs H Q, r' xs H Q → r xs H Q) : CallR X f r' := fun pins s σ H xs us Q I rx q => h pins s σ H xs us Q I rx (k xs H Q q)
theorem MtRi {X : Cx} {f : String} {r r' : V → List V → Hp → VK → Prop} (h : MtR X f r) (k : ∀ x xs H Q, r' x xs H Q → r x xs H Q) : MtR X f r' := fun pins s σ H x xs v us Q I rx rs q => h pins s σ H x xs v us Q I rx rs (k x xs H Q q)
theorem UnRi {X : Cx} {f : Value → Sem Value} {r r' : V → Hp → VK → Prop} (h : UnR X f r) (k : ∀ x H Q, r' x H Q → r x H Q) : UnR X f r' := fun pins s σ H x v Q I rx q => h pins s σ H x v Q I rx (k x H Q q)
theorem SlRi {X : Cx} {r r' : V → Option Int → Option Int → Hp → VK → Prop} (h : SlR X r) (k : ∀ x l u H Q, r' x l u H Q → r x l u H Q) : SlR X r' := fun pins s σ H x v vl vu lo hi sl Q I rx hs pl pu q => h pins s σ H x v vl vu lo hi sl Q I rx hs pl pu (k x lo hi H Q q)
/-! ### arithmetic -/
def cat2 (md : Bool) (v w : MV) (h : MH) : R MV := match lstOf h v with
  | none => .bad
  | some xs => match lstOf h w with
    | none => .bad
    | some ys => newL md (xs ++ ys) h
def gAdd (md : Bool) : M2 := fun v w h => match v with
  | .int i => match w with
    | .int j => .ok (.int (i + j)) h
    | _ => .bad
  | .str x => match w with
    | .str y => if x.length + y.length ≤ 1000000 then .ok (.str (x ++ y)) h else .bad
    | _ => .bad
  | .tup xs => match w with
    | .tup ys => newT (xs ++ ys) h
    | _ => .bad
  | v => cat2 md v w h
def gDif : M2 := fun v w h => match v with
  | .int i => match w with
    | .int j => .ok (.int (i - j)) h
    | _ => .bad
  | _ => .bad
def rep2 (md : Bool) (v : MV) (j : Int) (h : MH) : R MV := match lstOf h v with
  | none => .bad
  | some xs => if 0 ≤ j ∧ j ≤ 1000000 ∧ xs.length * j.toNat ≤ 1000000 then newL md (List.replicate j.toNat xs).flatten h else .bad
def gMul (md : Bool) : M2 := fun v w h => match w with
  | .int j => match v with
    | .int i => if i.natAbs < 2 ^ 64 ∨ j.natAbs < 2 ^ 64 ∨ i.natAbs.log2 + j.natAbs.log2 < 1000000 then .ok (.int (i * j)) h else .bad
    | v => rep2 md v j h
  | _ => .bad
def gMod : M2 := fun v w h => match v with
  | .int i => match w with
    | .int j => if 0 < j then .ok (.int (i % j)) h else .bad
    | _ => .bad
  | _ => .bad
def gDiv : M2 := fun v w h => match v with
  | .int i => match w with
    | .int j => if 0 < j ∧ j.natAbs.log2 < 9000 then .ok (.int (i / j)) h else .bad
    | _ => .bad
  | _ => .bad
def gPow : M2 := fun v w h => match v with
  | .int i => match w with
    | .int j => if 0 ≤ j ∧ j ≤ 1000000 ∧ i.natAbs < 2 ^ 64 then .ok (.int (i ^ j.toNat)) h else .bad
    | _ => .bad
  | _ => .bad
section
variable {X : Cx} {mg : Str → Option Value}
theorem rcat_of {W : Wd} {v w : MV} {h : MH} {σ : L2.St} {H : Hp} {Q : VK} {x y : V} {md : Bool} (hr : Hr X.K mg W h H) (vr : VR X.K mg W.F W.ρ v x) (wr : VR X.K mg W.F W.ρ w y) (t : AfR X.K mg WN (relV X.K mg) W σ H Q (cat2 md v w h)) : rCat x y H Q := by
  unfold cat2 at t
  cases e1 : lstOf h v with
  | none => rw [e1] at t; exact t.elim
  | some xs =>
    cases e2 : lstOf h w with
    | none => rw [e1, e2] at t; exact t.elim
    | some ys =>
      rw [e1, e2] at t
      obtain ⟨a, xs', rfl, r1, z1⟩ := lst_at hr vr e1
      obtain ⟨b, ys', rfl, r2, z2⟩ := lst_at hr wr e2
      obtain ⟨q1, q2⟩ := newL_go hr (r1.app r2) t
      rw [List.length_append] at q1
      exact ⟨a, b, xs', ys', rfl, rfl, z1, z2, q1, q2⟩
theorem o_add (md : Bool) : OpR X (binaryOp .Add) (r2 X.K mg WN (gAdd md)) := by
  refine OpRi (op_add.or (op_add_str.or (op_catA.or op_cat))) ?_
  rintro x y H Q ⟨W, v, w, h, σ, hr, vr, wr, t⟩
  cases vr with
  | int i =>
    cases wr with
    | int j => exact .inl ⟨i, j, rfl, rfl, t W H _ (Ex.refl _ _) hr (.int _)⟩
    | _ => exact t.elim
  | str i =>
    cases wr with
    | str j =>
      simp only [gAdd] at t
      split at t
      · rename_i hl
        exact .inr (.inl ⟨i, j, rfl, rfl, Nat.le_trans hl (by decide), t W H _ (Ex.refl _ _) hr (.str _)⟩)
      · exact t.elim
    | _ => exact t.elim
  | @tup a xs xs' s1 r1 =>
    cases wr with
    | @tup b ys ys' s2 r2 =>
      have t : AfR X.K mg WN (relV X.K mg) W σ H Q (newT (xs ++ ys) h) := t
      obtain ⟨q1, q2⟩ := newT_go hr (r1.app r2) t
      rw [List.length_append] at q1
      have eo : ∀ {c : Addr} {zs : List V}, xs' ++ ys' = zs → SqT X.K W.F c zs → Q (.ref c) H := fun {c zs} e s3 => by
        unfold newT at t
        split at t
        · exact t W H (.ref c) (Ex.refl _ _) hr (.tup s3 (e ▸ r1.app r2))
        · exact t.elim
      exact .inr (.inr (.inl ⟨a, b, xs', ys', rfl, rfl, hr.sqt s1, hr.sqt s2, q1, fun e => eo (by rw [e, List.nil_append]) s2, fun _ e => eo (by rw [e, List.append_nil]) s1, fun _ _ => q2⟩))
    | _ => exact t.elim
  | non => exact t.elim
  | bl _ => exact t.elim
  | ty _ => exact t.elim
  | lst a b => exact .inr (.inr (.inr (rcat_of hr (.lst a b) wr t)))
  | scr _ _ => exact t.elim
  | er _ _ _ _ => exact t.elim
  | obj _ _ _ => exact t.elim
  | dct _ _ => exact t.elim
  | ref a => exact .inr (.inr (.inr (rcat_of hr (.ref a) wr t)))
  | gl _ => exact t.elim
theorem o_sub : OpR X (binaryOp .Sub) (r2 X.K mg WN gDif) := by
  refine OpRi op_sub ?_
  rintro x y H Q ⟨W, v, w, h, σ, hr, vr, wr, t⟩
  cases vr with
  | int i =>
    cases wr with
    | int j => exact ⟨i, j, rfl, rfl, t W H _ (Ex.refl _ _) hr (.int _)⟩
    | _ => exact t.elim
  | _ => exact t.elim
theorem rep_of {W : Wd} {v : MV} {h : MH} {σ : L2.St} {H : Hp} {Q : VK} {x : V} {md : Bool} {j : Int} (hr : Hr X.K mg W h H) (vr : VR X.K mg W.F W.ρ v x) (t : AfR X.K mg WN (relV X.K mg) W σ H Q (rep2 md v j h)) : rRep x (.int j) H Q := by
  unfold rep2 at t
  cases e1 : lstOf h v with
  | none => rw [e1] at t; exact t.elim
  | some xs =>
    rw [e1] at t
    simp only at t
    split at t
    · rename_i hc
      obtain ⟨a, xs', rfl, r1, z1⟩ := lst_at hr vr e1
      obtain ⟨q1, q2⟩ := newL_go hr (r1.rep j.toNat) t
      refine ⟨a, j, xs', rfl, rfl, z1, by omega, by omega, ?_, q2⟩
      rw [← r1.length]
      exact Nat.le_trans hc.2.2 (by decide)
    · exact t.elim
theorem o_mul (md : Bool) : OpR X (binaryOp .Mult) (r2 X.K mg WN (gMul md)) := by
  refine OpRi (op_mulW.or (op_mul.or op_rep)) ?_
  rintro x y H Q ⟨W, v, w, h, σ, hr, vr, wr, t⟩
  cases wr with
  | int j =>
    cases vr with
    | int i =>
      simp only [gMul] at t
      split at t
      · rename_i hl
        have q := t W H _ (Ex.refl _ _) hr (.int _)
        rcases hl with hl | hl | hl
        · exact .inr (.inl ⟨i, j, rfl, rfl, .inl ⟨by omega, by omega⟩, q⟩)
        · exact .inr (.inl ⟨i, j, rfl, rfl, .inr ⟨by omega, by omega⟩, q⟩)
        · exact .inl ⟨i, j, rfl, rfl, hl, q⟩
      · exact t.elim
    | lst a b => exact .inr (.inr (rep_of hr (.lst a b) t))
    | ref a => exact .inr (.inr (rep_of hr (.ref a) t))
    | _ => exact t.elim
  | _ => exact t.elim
theorem o_mod : OpR X (binaryOp .Mod) (r2 X.K mg WN gMod) := by
  refine OpRi op_mod ?_
  rintro x y H Q ⟨W, v, w, h, σ, hr, vr, wr, t⟩
  cases vr with
  | int i =>
    cases wr with
    | int j =>
      simp only [gMod] at t
      split at t
      · rename_i hl
        exact ⟨i, j, rfl, rfl, hl, t W H _ (Ex.refl _ _) hr (.int _)⟩
      · exact t.elim
    | _ => exact t.elim
  | _ => exact t.elim
theorem o_div : OpR X (binaryOp .FloorDiv) (r2 X.K mg WN gDiv) := by
  refine OpRi op_fdivW ?_
  rintro x y H Q ⟨W, v, w, h, σ, hr, vr, wr, t⟩
  cases vr with
  | int i =>
    cases wr with
    | int j =>
      simp only [gDiv] at t
      split at t
      · rename_i hl
        exact ⟨i, j, rfl, rfl, hl, t W H _ (Ex.refl _ _) hr (.int _)⟩
      · exact t.elim
    | _ => exact t.elim
  | _ => exact t.elim
theorem o_pow : OpR X (binaryOp .Pow) (r2 X.K mg WN gPow) := by
  refine OpRi op_pow ?_
  rintro x y H Q ⟨W, v, w, h, σ, hr, vr, wr, t⟩
  cases vr with
  | int i =>
    cases wr with
    | int j =>
      simp only [gPow] at t
      split at t
      · rename_i hl
        exact ⟨i, j, rfl, rfl, hl, t W H _ (Ex.refl _ _) hr (.int _)⟩
      · exact t.elim
    | _ => exact t.elim
  | _ => exact t.elim
/-! ### comparisons -/
def scM : MV → MV → Bool
  | .non, .non => true | .non, .int _ => true | .int _, .non => true | .non, .bl _ => true | .bl _, .non => true | .non, .str _ => true | .str _, .non => true
  | .int _, .int _ => true | .bl _, .bl _ => true | .str _, .str _ => true
  | .int _, .str _ => true | .str _, .int _ => true | .bl _, .str _ => true | .str _, .bl _ => true
  | _, _ => false
/-- == -/
def eqM (h : MH) (v w : MV) : Option Bool := if scM v w then some (eqF v w) else match dat h v with
  | none => none
  | some d => match dat h w with
    | none => none
    | some e => if SeqAt.shaped d && SeqAt.shaped e then some (PyData.eqv d e) else none
def gEq : M2 := fun v w h => match eqM h v w with
  | some b => .ok (.bl b) h
  | none => .bad
def gNe : M2 := fun v w h => match eqM h v w with
  | some b => .ok (.bl (!b)) h
  | none => .bad
theorem sc_of {W : Wd} {v w : MV} {x y : V} (vr : VR X.K mg W.F W.ρ v x) (wr : VR X.K mg W.F W.ρ w y) (e : scM v w = true) : scal x y = true ∧ decide (x = y) = eqF v w := by
  cases vr <;> cases wr <;> first | (cases e; done) | (refine ⟨rfl, ?_⟩; first | exact dec_int | exact dec_bl | exact dec_str | rfl)
theorem eqM_of {W : Wd} {v w : MV} {x y : V} {h : MH} {H : Hp} {b : Bool} (hr : Hr X.K mg W h H) (vr : VR X.K mg W.F W.ρ v x) (wr : VR X.K mg W.F W.ρ w y) (e : eqM h v w = some b) : (scal x y = true ∧ decide (x = y) = b) ∨ ∃ d f, Dp X.K H x d ∧ Dp X.K H y f ∧ SeqAt.shaped d = true ∧ SeqAt.shaped f = true ∧ PyData.eqv d f = b := by
  unfold eqM at e
  split at e
  · rename_i hs
    cases e
    exact .inl (sc_of vr wr hs)
  · right
    cases e1 : dat h v with
    | none => rw [e1] at e; cases e
    | some d =>
      cases e2 : dat h w with
      | none => rw [e1, e2] at e; cases e
      | some f =>
        rw [e1, e2] at e
        simp only at e
        split at e
        · rename_i hs
          rw [Bool.and_eq_true] at hs
          cases e
          exact ⟨d, f, dp_at hr vr e1, dp_at hr wr e2, hs.1, hs.2, rfl⟩
        · cases e
theorem o_eq (hu : X.A.units + 64 < cLine) : OpR X (compareOp .Eq) (r2 X.K mg WN gEq) := by
  refine OpRi (op_eq.or (op_eqD hu)) ?_
  rintro x y H Q ⟨W, v, w, h, σ, hr, vr, wr, t⟩
  unfold gEq at t
  cases e : eqM h v w with
  | none => rw [e] at t; exact t.elim
  | some b =>
    rw [e] at t
    have q := t W H _ (Ex.refl _ _) hr (.bl b)
    rcases eqM_of hr vr wr e with ⟨e1, rfl⟩ | ⟨d, f, e1, e2, e3, e4, rfl⟩
    · exact .inl ⟨e1, q⟩
    · exact .inr ⟨d, f, e1, e2, e3, e4, q⟩
theorem o_ne (hu : X.A.units + 64 < cLine) : OpR X (compareOp .NotEq) (r2 X.K mg WN gNe) := by
  refine OpRi (op_ne.or (op_neD hu)) ?_
  rintro x y H Q ⟨W, v, w, h, σ, hr, vr, wr, t⟩
  unfold gNe at t
  cases e : eqM h v w with
  | none => rw [e] at t; exact t.elim
  | some b =>
    rw [e] at t
    have q := t W H _ (Ex.refl _ _) hr (.bl (!b))
    rcases eqM_of hr vr wr e with ⟨e1, rfl⟩ | ⟨d, f, e1, e2, e3, e4, rfl⟩
    · exact .inl ⟨e1, q⟩
    · exact .inr ⟨d, f, e1, e2, e3, e4, q⟩
/-- v in w -/
def inM (h : MH) (v w : MV) : Option Bool := match w with
  | .str y => match v with
    | .str x => if x.length = 1 then some (decide ((x.cps.getD 0 0) ∈ y.cps.toList)) else some (!(Builtin.Str.occurrences y x 0 y.length 1).isEmpty)
    | _ => none
  | w => match seqOf h w with
    | none => none
    | some p => if flatM v && p.2.all flatM then some (inF v p.2) else none
def gIn : M2 := fun v w h => match inM h v w with
  | some b => .ok (.bl b) h
  | none => .bad
def gNi : M2 := fun v w h => match inM h v w with
  | some b => .ok (.bl (!b)) h
  | none => .bad
theorem one_sign {x : Str} (h : x.length = 1) : x = ⟨#[x.cps.getD 0 0]⟩ := by
  obtain ⟨⟨l⟩⟩ := x
  match l, h with
  | [c], _ => rfl
theorem inM_of {W : Wd} {v w : MV} {x y : V} {h : MH} {H : Hp} {b : Bool} (hr : Hr X.K mg W h H) (vr : VR X.K mg W.F W.ρ v x) (wr : VR X.K mg W.F W.ρ w y) (e : inM h v w = some b) :
    (∃ p ys, y = .ref p ∧ (SqL X.K H p ys ∨ SqT X.K H p ys) ∧ flatV x = true ∧ ys.all flatV = true ∧ inV x ys = b) ∨ (∃ i j, x = .str i ∧ y = .str j ∧ (!(Builtin.Str.occurrences j i 0 j.length 1).isEmpty) = b) ∨ ∃ (c : Nat) (z : Str), x = .str ⟨#[c]⟩ ∧ y = .str z ∧ decide (c ∈ z.cps.toList) = b := by
  have go : ∀ {w : MV}, VR X.K mg W.F W.ρ w y → (match seqOf h w with | none => none | some p => if flatM v && p.2.all flatM then some (inF v p.2) else none) = some b → ∃ p ys, y = .ref p ∧ (SqL X.K H p ys ∨ SqT X.K H p ys) ∧ flatV x = true ∧ ys.all flatV = true ∧ inV x ys = b := by
    intro w wr e
    cases e1 : seqOf h w with
    | none => rw [e1] at e; cases e
    | some p =>
      rw [e1] at e
      simp only at e
      split at e
      · rename_i hs
        rw [Bool.and_eq_true] at hs
        cases e
        obtain ⟨a, ys, rfl, r1, s1⟩ := seq_or hr wr (b := p.1) (xs := p.2) e1
        exact ⟨a, ys, rfl, s1, flat_of vr hs.1, flats_of r1 hs.2, inF_of vr r1 hs.1 hs.2⟩
      · cases e
  cases wr with
  | str j =>
    cases vr with
    | str i =>
      simp only [inM] at e
      split at e
      · rename_i hl
        cases e
        refine .inr (.inr ⟨i.cps.getD 0 0, j, ?_, rfl, rfl⟩)
        rw [← one_sign hl]
      · cases e
        exact .inr (.inl ⟨i, j, rfl, rfl, rfl⟩)
    | _ => cases e
  | tup p q => exact .inl (go (.tup p q) e)
  | lst p q => exact .inl (go (.lst p q) e)
  | scr p q => exact .inl (go (.scr p q) e)
  | ref p => exact .inl (go (.ref p) e)
  | _ => cases e
theorem o_in : OpR X (compareOp .In) (r2 X.K mg WN gIn) := by
  refine OpRi (op_in_seq.or (op_in_str.or op_in_sign)) ?_
  rintro x y H Q ⟨W, v, w, h, σ, hr, vr, wr, t⟩
  unfold gIn at t
  cases e : inM h v w with
  | none => rw [e] at t; exact t.elim
  | some b =>
    rw [e] at t
    have q := t W H _ (Ex.refl _ _) hr (.bl b)
    rcases inM_of hr vr wr e with ⟨p, ys, rfl, e1, e2, e3, rfl⟩ | ⟨i, j, rfl, rfl, rfl⟩ | ⟨c, z, rfl, rfl, rfl⟩
    · exact .inl ⟨p, ys, rfl, e1, e2, e3, q⟩
    · exact .inr (.inl ⟨i, j, rfl, rfl, q⟩)
    · exact .inr (.inr ⟨c, z, rfl, rfl, q⟩)
theorem o_ni : OpR X (compareOp .NotIn) (r2 X.K mg WN gNi) := by
  refine OpRi (op_notIn_seq.or (op_notIn_str.or op_notIn_sign)) ?_
  rintro x y H Q ⟨W, v, w, h, σ, hr, vr, wr, t⟩
  unfold gNi at t
  cases e : inM h v w with
  | none => rw [e] at t; exact t.elim
  | some b =>
    rw [e] at t
    have q := t W H _ (Ex.refl _ _) hr (.bl (!b))
    rcases inM_of hr vr wr e with ⟨p, ys, rfl, e1, e2, e3, rfl⟩ | ⟨i, j, rfl, rfl, rfl⟩ | ⟨c, z, rfl, rfl, rfl⟩
    · exact .inl ⟨p, ys, rfl, e1, e2, e3, q⟩
    · exact .inr (.inl ⟨i, j, rfl, rfl, q⟩)
    · exact .inr (.inr ⟨c, z, rfl, rfl, q⟩)
/-- is None, is True .. -/
def isM (v w : MV) : Option Bool := match w with
  | .non => match v with
    | .non => some true
    | _ => some false
  | .bl b => match v with
    | .bl a => some (decide (a = b))
    | _ => none
  | _ => none
def gIs : M2 := fun v w h => match isM v w with
  | some b => .ok (.bl b) h
  | none => .bad
def gIsn : M2 := fun v w h => match isM v w with
  | some b => .ok (.bl (!b)) h
  | none => .bad
theorem isM_of {W : Wd} {v w : MV} {x y : V} {b : Bool} (vr : VR X.K mg W.F W.ρ v x) (wr : VR X.K mg W.F W.ρ w y) (e : isM v w = some b) : (y = .non ∧ decide (x = .non) = b) ∨ ∃ c d : Bool, x = .bl c ∧ y = .bl d ∧ decide (c = d) = b := by
  cases wr with
  | non => exact .inl ⟨rfl, by cases vr <;> (cases e; rfl)⟩
  | bl d =>
    cases vr with
    | bl c =>
      cases e
      exact .inr ⟨c, d, rfl, rfl, rfl⟩
    | _ => cases e
  | _ => cases e
theorem o_is : OpR X (compareOp .Is) (r2 X.K mg WN gIs) := by
  refine OpRi (op_isN.or op_isBl) ?_
  rintro x y H Q ⟨W, v, w, h, σ, hr, vr, wr, t⟩
  unfold gIs at t
  cases e : isM v w with
  | none => rw [e] at t; exact t.elim
  | some b =>
    rw [e] at t
    have q := t W H _ (Ex.refl _ _) hr (.bl b)
    rcases isM_of vr wr e with ⟨rfl, rfl⟩ | ⟨c, d, rfl, rfl, rfl⟩
    · exact .inl ⟨rfl, q⟩
    · exact .inr ⟨c, d, rfl, rfl, q⟩
theorem o_isn : OpR X (compareOp .IsNot) (r2 X.K mg WN gIsn) := by
  refine OpRi (op_notN.or op_notBl) ?_
  rintro x y H Q ⟨W, v, w, h, σ, hr, vr, wr, t⟩
  unfold gIsn at t
  cases e : isM v w with
  | none => rw [e] at t; exact t.elim
  | some b =>
    rw [e] at t
    have q := t W H _ (Ex.refl _ _) hr (.bl (!b))
    rcases isM_of vr wr e with ⟨rfl, rfl⟩ | ⟨c, d, rfl, rfl, rfl⟩
    · exact .inl ⟨rfl, q⟩
    · exact .inr ⟨c, d, rfl, rfl, q⟩
/-- order -/
def ltM (v w : MV) : Option Bool := match v with
  | .int i => match w with
    | .int j => some (decide (i < j))
    | _ => none
  | .str x => match w with
    | .str y => some (decide (x.cps.toList < y.cps.toList))
    | _ => none
  | _ => none
def leM (v w : MV) : Option Bool := match v with
  | .int i => match w with
    | .int j => some (decide (i ≤ j))
    | _ => none
  | .str x => match w with
    | .str y => some (!decide (y.cps.toList < x.cps.toList))
    | _ => none
  | _ => none
def ofB (h : MH) : Option Bool → R MV
  | some b => .ok (.bl b) h
  | none => .bad
def gLt : M2 := fun v w h => ofB h (ltM v w)
def gGt : M2 := fun v w h => ofB h (ltM w v)
def gLe : M2 := fun v w h => ofB h (leM v w)
def gGe : M2 := fun v w h => ofB h (leM w v)
theorem o_lt : OpR X (compareOp .Lt) (r2 X.K mg WN gLt) := by
  refine OpRi (op_lt.or op_lt_str) ?_
  rintro x y H Q ⟨W, v, w, h, σ, hr, vr, wr, t⟩
  cases vr with
  | int i =>
    cases wr with
    | int j => exact .inl ⟨i, j, rfl, rfl, t W H _ (Ex.refl _ _) hr (.bl _)⟩
    | _ => exact t.elim
  | str i =>
    cases wr with
    | str j => exact .inr ⟨i, j, rfl, rfl, t W H _ (Ex.refl _ _) hr (.bl _)⟩
    | _ => exact t.elim
  | _ => exact t.elim
theorem o_le : OpR X (compareOp .LtE) (r2 X.K mg WN gLe) := by
  refine OpRi (op_le.or op_le_str) ?_
  rintro x y H Q ⟨W, v, w, h, σ, hr, vr, wr, t⟩
  cases vr with
  | int i =>
    cases wr with
    | int j => exact .inl ⟨i, j, rfl, rfl, t W H _ (Ex.refl _ _) hr (.bl _)⟩
    | _ => exact t.elim
  | str i =>
    cases wr with
    | str j => exact .inr ⟨i, j, rfl, rfl, t W H _ (Ex.refl _ _) hr (.bl _)⟩
    | _ => exact t.elim
  | _ => exact t.elim
theorem o_gt : OpR X (compareOp .Gt) (r2 X.K mg WN gGt) := by
  refine OpRi (op_gt.or op_gt_str) ?_
  rintro x y H Q ⟨W, v, w, h, σ, hr, vr, wr, t⟩
  cases wr with
  | int i =>
    cases vr with
    | int j => exact .inl ⟨_, _, rfl, rfl, t W H _ (Ex.refl _ _) hr (.bl _)⟩
    | _ => exact t.elim
  | str i =>
    cases vr with
    | str j => exact .inr ⟨_, _, rfl, rfl, t W H _ (Ex.refl _ _) hr (.bl _)⟩
    | _ => exact t.elim
  | _ => exact t.elim
theorem o_ge : OpR X (compareOp .GtE) (r2 X.K mg WN gGe) := by
  refine OpRi (op_ge.or op_ge_str) ?_
  rintro x y H Q ⟨W, v, w, h, σ, hr, vr, wr, t⟩
  cases wr with
  | int i =>
    cases vr with
    | int j => exact .inl ⟨_, _, rfl, rfl, t W H _ (Ex.refl _ _) hr (.bl _)⟩
    | _ => exact t.elim
  | str i =>
    cases vr with
    | str j => exact .inr ⟨_, _, rfl, rfl, t W H _ (Ex.refl _ _) hr (.bl _)⟩
    | _ => exact t.elim
  | _ => exact t.elim
/-! ### subscripts -/
def gIx : M2 := fun v w h => match w with
  | .int i => match v with
    | .str z => if z.length ≤ 1000000 then (match atI z.cps.toList i with
      | some c => .ok (.str ⟨#[c]⟩) h
      | none => .bad) else .bad
    | v => match seqOf h v with
      | none => .bad
      | some p => match atI p.2 i with
        | some u => .ok u h
        | none => .bad
  | _ => .bad
theorem atI_rel {W : Wd} {vs : List MV} {xs : List V} {i : Int} {v : MV} (r : VRs X.K mg W.F W.ρ vs xs) (e : atI vs i = some v) : ∃ x, atI xs i = some x ∧ VR X.K mg W.F W.ρ v x := by
  unfold atI at e ⊢
  rw [← r.length]
  cases z : ixN vs.length i with
  | none => rw [z] at e; cases e
  | some j =>
    rw [z] at e
    obtain ⟨x, h1, h2⟩ := r.get e
    exact ⟨x, h1, h2⟩
theorem o_ix : IxR X (r2 X.K mg WN gIx) := by
  refine IxRi ix_seq ?_
  rintro x y H Q ⟨W, v, w, h, σ, hr, vr, wr, t⟩
  cases wr with
  | int i =>
    have go : ∀ {v : MV}, VR X.K mg W.F W.ρ v x → AfR X.K mg WN (relV X.K mg) W σ H Q (match seqOf h v with | none => .bad | some p => match atI p.2 i with | some u => .ok u h | none => .bad) → rIx X.K x (.int i) H Q := by
      intro v vr t
      cases e1 : seqOf h v with
      | none => rw [e1] at t; exact t.elim
      | some p =>
        cases e2 : atI p.2 i with
        | none => simp only [e1, e2] at t; exact t.elim
        | some u =>
          simp only [e1, e2] at t
          obtain ⟨a, ys, rfl, r1, s1, s2⟩ := seq_at hr vr (b := p.1) (xs := p.2) e1
          obtain ⟨z, z1, z2⟩ := atI_rel r1 e2
          cases e3 : p.1 with
          | true => exact .inr (.inl ⟨a, ys, i, z, rfl, rfl, s1 e3, z1, t W H _ (Ex.refl _ _) hr z2⟩)
          | false => exact .inl ⟨a, ys, i, z, rfl, rfl, s2 e3, z1, t W H _ (Ex.refl _ _) hr z2⟩
    cases vr with
    | str z =>
      simp only [gIx] at t
      split at t
      · rename_i hl
        cases e : atI z.cps.toList i with
        | none => rw [e] at t; exact t.elim
        | some c =>
          rw [e] at t
          exact .inr (.inr ⟨z, i, c, rfl, rfl, Nat.le_trans hl (by decide), e, t W H _ (Ex.refl _ _) hr (.str _)⟩)
      · exact t.elim
    | tup p q => exact go (.tup p q) t
    | lst p q => exact go (.lst p q) t
    | scr p q => exact go (.scr p q) t
    | ref p => exact go (.ref p) t
    | _ => exact t.elim
  | _ => exact t.elim
end
end M
set_option Elab.async false
set_option linter.all false
set_option maxRecDepth 100000
set_option maxHeartbeats 4000000
namespace M
open PySem PySem.Spec L2 G
/-! ### calls of what is built in -/
abbrev MC := List MV → MH → R MV
def rC (K : PySem.W.Frag) (mg : Str → Option Value) (g : MC) : List V → Hp → VK → Prop := fun xs H Q => ∃ W vs h σ, Hr K mg W h H ∧ VRs K mg W.F W.ρ vs xs ∧ AfR K mg WN (relV K mg) W σ H Q (g vs h)
def mCB (g : MC) (m : MA) : ME := fun s h => (m s h).bind fun vs h1 => noX (g vs h1)
def on1 (f : MV → MH → R MV) : MC := fun vs h => match vs with
  | [v] => f v h
  | _ => .bad
def on2 (f : MV → MV → MH → R MV) : MC := fun vs h => match vs with
  | [v, w] => f v w h
  | _ => .bad
section
variable {X : Cx} {K : PySem.W.Frag} {mg : Str → Option Value} {ei : EI} {Wx : WX} {a b o : Expr} {es : List Expr} {pos p apos : Pos} {ma mb mc mo : ME} {mas : MA} {x : Str}
theorem t_cb {g : MC} {σ : L2.St} {H : Hp} {Q : VK} (t : tE K mg ei Wx (mCB g mas) σ H Q) : tCB (rC K mg g) (tA K mg ei Wx mas) σ H Q := by
  obtain ⟨W, s, h, hr, sr, t⟩ := t
  refine (tG_bind (rel1 := relVs K mg) hr sr t).post ?_
  rintro x H1 ⟨W1, v, h1, e1, hr1, sr1, vr, t1⟩
  exact ⟨W1, v, h1, σ, hr1, vr, noX_go t1⟩
theorem m_cb {id : String} {g : MC} (hc : CallR X (.builtin id) (rC K mg g)) (hg : Gl X x) (hm : X.mg x = none) (hv : bootBuiltins x = some (.builtin id)) (ha : PA X (a :: es) (tA K mg ei Wx mas)) (hn : x ≠ "__name__" := by decide) (hdb : (x == ("__debug__" : Str)) = false := by decide)
    (he : starEach (a :: es) X.env = (false, eval a X.env) :: starEach es X.env := by rfl) (hpl : (backTo pos (starEach es X.env)).any (·.1) = false := by rfl) : PE X (.Call (.Name x p) (a :: es) [] pos) (tE K mg ei Wx (mCB g mas)) :=
  PEi (pe_callB hc hg hm hv ha hn hdb he hpl) fun _ _ _ t => t_cb t
theorem m_ct {id : String} {g : MC} (hc : CallR X (.type id) (rC K mg g)) (hg : Gl X x) (hm : X.mg x = none) (hv : bootBuiltins x = some (.type id)) (ha : PA X (a :: es) (tA K mg ei Wx mas)) (hn : x ≠ "__name__" := by decide) (hdb : (x == ("__debug__" : Str)) = false := by decide)
    (he : starEach (a :: es) X.env = (false, eval a X.env) :: starEach es X.env := by rfl) (hpl : (backTo pos (starEach es X.env)).any (·.1) = false := by rfl) : PE X (.Call (.Name x p) (a :: es) [] pos) (tE K mg ei Wx (mCB g mas)) :=
  PEi (pe_callTy hc hg hm hv ha hn hdb he hpl) fun _ _ _ t => t_cb t
end
theorem vrs1 {K : PySem.W.Frag} {mg : Str → Option Value} {F : Hp} {ρ : List Addr} {v : MV} {xs : List V} (r : VRs K mg F ρ [v] xs) : ∃ x, xs = [x] ∧ VR K mg F ρ v x := by
  cases r with
  | cons h t =>
    cases t
    exact ⟨_, rfl, h⟩
theorem vrs2 {K : PySem.W.Frag} {mg : Str → Option Value} {F : Hp} {ρ : List Addr} {v w : MV} {xs : List V} (r : VRs K mg F ρ [v, w] xs) : ∃ x y, xs = [x, y] ∧ VR K mg F ρ v x ∧ VR K mg F ρ w y := by
  cases r with
  | cons h t =>
    obtain ⟨y, rfl, h2⟩ := vrs1 t
    exact ⟨_, _, rfl, h, h2⟩
section
variable {X : Cx} {mg : Str → Option Value}
/-- one argument -/
theorem rc1 {f : MV → MH → R MV} {r : List V → Hp → VK → Prop} (k : ∀ W v x h σ H Q, Hr X.K mg W h H → VR X.K mg W.F W.ρ v x → AfR X.K mg WN (relV X.K mg) W σ H Q (f v h) → r [x] H Q) : ∀ xs H Q, rC X.K mg (on1 f) xs H Q → r xs H Q := by
  rintro xs H Q ⟨W, vs, h, σ, hr, vr, t⟩
  match vs, vr, t with
  | [], _, t => exact t.elim
  | [v], vr, t =>
    obtain ⟨x, rfl, vr1⟩ := vrs1 vr
    exact k W v x h σ H Q hr vr1 t
  | _ :: _ :: _, _, t => exact t.elim
theorem rc2 {f : MV → MV → MH → R MV} {r : List V → Hp → VK → Prop} (k : ∀ W v w x y h σ H Q, Hr X.K mg W h H → VR X.K mg W.F W.ρ v x → VR X.K mg W.F W.ρ w y → AfR X.K mg WN (relV X.K mg) W σ H Q (f v w h) → r [x, y] H Q) : ∀ xs H Q, rC X.K mg (on2 f) xs H Q → r xs H Q := by
  rintro xs H Q ⟨W, vs, h, σ, hr, vr, t⟩
  match vs, vr, t with
  | [], _, t => exact t.elim
  | [v], vr, t => exact t.elim
  | [v, w], vr, t =>
    obtain ⟨x, y, rfl, vr1, wr1⟩ := vrs2 vr
    exact k W v w x y h σ H Q hr vr1 wr1 t
  | _ :: _ :: _ :: _, _, t => exact t.elim
def fLen (v : MV) (h : MH) : R MV := match v with
  | .str z => if z.length ≤ 1000000 then .ok (.int z.length) h else .bad
  | v => match seqOf h v with
    | some p => .ok (.int p.2.length) h
    | none => .bad
theorem q_len : CallR X (.builtin "len") (rC X.K mg (on1 fLen)) := by
  refine CallRi (call_len_str.or call_len_seq) (rc1 ?_)
  intro W v x h σ H Q hr vr t
  have go : ∀ {v : MV}, VR X.K mg W.F W.ρ v x → AfR X.K mg WN (relV X.K mg) W σ H Q (match seqOf h v with | some p => .ok (.int p.2.length) h | none => .bad) → ∃ p ys, [x] = [.ref p] ∧ (SqL X.K H p ys ∨ SqT X.K H p ys) ∧ Q (.int ys.length) H := by
    intro v vr t
    cases e : seqOf h v with
    | none => rw [e] at t; exact t.elim
    | some p =>
      rw [e] at t
      obtain ⟨a, ys, rfl, r1, s1⟩ := seq_or hr vr (b := p.1) (xs := p.2) e
      refine ⟨a, ys, rfl, s1, ?_⟩
      have q := t W H _ (Ex.refl _ _) hr (.int _)
      rw [r1.length] at q
      exact q
  cases vr with
  | str z =>
    simp only [fLen] at t
    split at t
    · rename_i hl
      exact .inl ⟨z, rfl, Nat.le_trans hl (by decide), t W H _ (Ex.refl _ _) hr (.int _)⟩
    · exact t.elim
  | tup p q => exact .inr (go (.tup p q) t)
  | lst p q => exact .inr (go (.lst p q) t)
  | scr p q => exact .inr (go (.scr p q) t)
  | ref p => exact .inr (go (.ref p) t)
  | _ => exact t.elim
def fAbs (v : MV) (h : MH) : R MV := match v with
  | .int i => .ok (.int (if i < 0 then -i else i)) h
  | _ => .bad
theorem q_abs : CallR X (.builtin "abs") (rC X.K mg (on1 fAbs)) := by
  refine CallRi call_abs (rc1 ?_)
  intro W v x h σ H Q hr vr t
  cases vr with
  | int i => exact ⟨i, rfl, t W H _ (Ex.refl _ _) hr (.int _)⟩
  | _ => exact t.elim
def fInt (v : MV) (h : MH) : R MV := match v with
  | .int i => .ok (.int i) h
  | .bl b => .ok (.int (if b then 1 else 0)) h
  | .str x => if x.length ≤ 640 then (match PySem.intText? x with
    | some n => .ok (.int n) h
    | none => .bad) else .bad
  | _ => .bad
theorem q_int : CallR X (.type "int") (rC X.K mg (on1 fInt)) := by
  refine CallRi (call_int1.or call_int_str) (rc1 ?_)
  intro W v x h σ H Q hr vr t
  cases vr with
  | int i => exact .inl (.inl ⟨i, rfl, t W H _ (Ex.refl _ _) hr (.int _)⟩)
  | bl i => exact .inl (.inr ⟨i, rfl, t W H _ (Ex.refl _ _) hr (.int _)⟩)
  | str i =>
    simp only [fInt] at t
    split at t
    · rename_i hl
      cases e : PySem.intText? i with
      | none => rw [e] at t; exact t.elim
      | some n =>
        rw [e] at t
        exact .inr ⟨i, n, rfl, e, hl, t W H _ (Ex.refl _ _) hr (.int _)⟩
    · exact t.elim
  | _ => exact t.elim
def fBool (v : MV) (h : MH) : R MV := match v with
  | .int i => .ok (.bl (i != 0)) h
  | .bl b => .ok (.bl b) h
  | _ => .bad
theorem q_bool : CallR X (.type "bool") (rC X.K mg (on1 fBool)) := by
  refine CallRi call_bool1 (rc1 ?_)
  intro W v x h σ H Q hr vr t
  cases vr with
  | int i => exact .inl ⟨i, rfl, t W H _ (Ex.refl _ _) hr (.bl _)⟩
  | bl i => exact .inr ⟨i, rfl, t W H _ (Ex.refl _ _) hr (.bl _)⟩
  | _ => exact t.elim
def fMax (v w : MV) (h : MH) : R MV := match v with
  | .int i => match w with
    | .int j => .ok (.int (if j > i then j else i)) h
    | _ => .bad
  | _ => .bad
def fMin (v w : MV) (h : MH) : R MV := match v with
  | .int i => match w with
    | .int j => .ok (.int (if j < i then j else i)) h
    | _ => .bad
  | _ => .bad
theorem q_max (hc : X.calm = true) : CallR X (.builtin "max") (rC X.K mg (on2 fMax)) := by
  refine CallRi (call_max2 hc) (rc2 ?_)
  intro W v w x y h σ H Q hr vr wr t
  cases vr with
  | int i =>
    cases wr with
    | int j => exact ⟨i, j, rfl, t W H _ (Ex.refl _ _) hr (.int _)⟩
    | _ => exact t.elim
  | _ => exact t.elim
theorem q_min (hc : X.calm = true) : CallR X (.builtin "min") (rC X.K mg (on2 fMin)) := by
  refine CallRi (call_min2 hc) (rc2 ?_)
  intro W v w x y h σ H Q hr vr wr t
  cases vr with
  | int i =>
    cases wr with
    | int j => exact ⟨i, j, rfl, t W H _ (Ex.refl _ _) hr (.int _)⟩
    | _ => exact t.elim
  | _ => exact t.elim
def fList (md : Bool) (v : MV) (h : MH) : R MV := match seqOf h v with
  | some p => newL md p.2 h
  | none => .bad
theorem q_list (md : Bool) : CallR X (.type "list") (rC X.K mg (on1 (fList md))) := by
  refine CallRi call_list_of (rc1 ?_)
  intro W v x h σ H Q hr vr t
  unfold fList at t
  cases e : seqOf h v with
  | none => rw [e] at t; exact t.elim
  | some p =>
    rw [e] at t
    obtain ⟨a, ys, rfl, r1, s1⟩ := seq_or hr vr (b := p.1) (xs := p.2) e
    exact ⟨a, ys, rfl, s1, (newL_go hr r1 t).2⟩
def fTuple (v : MV) (h : MH) : R MV := match seqOf h v with
  | some p => newT p.2 h
  | none => .bad
theorem q_tuple : CallR X (.type "tuple") (rC X.K mg (on1 fTuple)) := by
  refine CallRi call_tuple_of (rc1 ?_)
  intro W v x h σ H Q hr vr t
  unfold fTuple at t
  cases e : seqOf h v with
  | none => rw [e] at t; exact t.elim
  | some p =>
    rw [e] at t
    cases vr with
    | @tup a xs ys s1 r1 =>
      cases e
      have t : AfR X.K mg WN (relV X.K mg) W σ H Q (newT xs h) := t
      refine ⟨_, _, rfl, .inr ⟨hr.sqt s1, ?_⟩⟩
      unfold newT at t
      split at t
      · exact t W H _ (Ex.refl _ _) hr (.tup s1 r1)
      · exact t.elim
    | lst s1 r1 =>
      cases e
      exact ⟨_, _, rfl, .inl ⟨sl_of (hr.fz _ _ s1), (newT_go hr r1 t).2⟩⟩
    | scr s1 r1 =>
      cases e
      exact ⟨_, _, rfl, .inl ⟨hr.sql s1, (newT_go hr r1 t).2⟩⟩
    | ref s1 =>
      obtain ⟨a, ys, e1, r1, s2, s3⟩ := seq_at hr (.ref s1) (b := p.1) (xs := p.2) e
      have : p.1 = false := by
        unfold seqOf at e
        dsimp only at e
        split at e
        · cases e; rfl
        · cases e
      cases e1
      exact ⟨_, _, rfl, .inl ⟨s3 this, (newT_go hr r1 t).2⟩⟩
    | _ => cases e
/-! repr -/
def fRepr (v : MV) (h : MH) : R MV := match dat h v with
  | some d => if fine d = true ∧ d.depth ≤ 40 ∧ G.wt d ≤ 1000000 then .ok (.str d.shown) h else .bad
  | none => .bad
theorem q_repr {k : Nat} (g : X.A.guards = some []) (hu : X.A.units + 16 * k + 200 < cLine) : CallR X (.builtin "repr") (rC X.K mg (on1 fRepr)) := by
  refine CallRi (call_reprU g hu) (rc1 ?_)
  intro W v x h σ H Q hr vr t
  unfold fRepr at t
  cases e : dat h v with
  | none => rw [e] at t; exact t.elim
  | some d =>
    rw [e] at t
    simp only at t
    split at t
    · rename_i hc
      exact ⟨x, d, rfl, dp_at hr vr e, ⟨hc.1, hc.2.1, hc.2.2⟩, t W H _ (Ex.refl _ _) hr (.str _)⟩
    · exact t.elim
/-! isinstance, built-in classes -/
def tyM (h : MH) : MV → Option String
  | .non => some "NoneType"
  | .bl _ => some "bool"
  | .int _ => some "int"
  | .str _ => some "str"
  | .tup _ => some "tuple"
  | .lst _ => some "list"
  | .scr _ => some "list"
  | .ref n => match h[n]? with
    | some (.lst _) => some "list"
    | some (.dct _) => some "dict"
    | _ => none
  | _ => none
def subT (t T : String) : Bool := t == T || (t == "bool" && T == "int")
def tysL : List String := ["NoneType", "bool", "int", "str", "tuple", "list", "dict"]
def fIsi (v w : MV) (h : MH) : R MV := match w with
  | .ty T => if tysL.contains T then (match tyM h v with
    | some t => .ok (.bl (subT t T)) h
    | none => .bad) else .bad
  | _ => .bad
theorem kit_sub : ∀ t ∈ tysL, ∀ T ∈ tysL, kitB t T = some (subT t T) := by decide +kernel
theorem tyM_of {W : Wd} {h : MH} {H : Hp} (hr : Hr X.K mg W h H) {v : MV} {x : V} (vr : VR X.K mg W.F W.ρ v x) {t : String} (e : tyM h v = some t) : TyX X.K H x (.type t) ∧ t ∈ tysL := by
  cases vr with
  | non => cases e; exact ⟨.base .non, by decide⟩
  | bl b => cases e; exact ⟨.base (.bl b), by decide⟩
  | int b => cases e; exact ⟨.base (.int b), by decide⟩
  | str b => cases e; exact ⟨.base (.str b), by decide⟩
  | tup p q => cases e; exact ⟨sqt_ty (hr.sqt p), by decide⟩
  | lst p q => cases e; exact ⟨sql_ty (sl_of (hr.fz _ _ p)), by decide⟩
  | scr p q => cases e; exact ⟨sql_ty (hr.sql p), by decide⟩
  | @ref n a p =>
    unfold tyM at e
    dsimp only at e
    split at e
    · rename_i ys he
      cases e
      obtain ⟨a', u, e1, e2, e3⟩ := hr.at he
      rw [p] at e1
      cases e1
      cases e3 with
      | lst e3 => exact ⟨.base (.lst e2), by decide⟩
    · rename_i ys he
      cases e
      obtain ⟨a', u, e1, e2, e3⟩ := hr.at he
      rw [p] at e1
      cases e1
      cases e3 with
      | dct e3 => exact ⟨.base (.dK e2), by decide⟩
    · cases e
  | _ => cases e
theorem q_isi : CallR X (.builtin "isinstance") (rC X.K mg (on2 fIsi)) := by
  refine CallRi call_isi (rc2 ?_)
  intro W v w x y h σ H Q hr vr wr t
  cases wr with
  | ty T =>
    simp only [fIsi] at t
    split at t
    · rename_i hT
      cases e : tyM h v with
      | none => rw [e] at t; exact t.elim
      | some ty =>
        rw [e] at t
        obtain ⟨t1, t2⟩ := tyM_of hr vr e
        exact ⟨x, .ty T, _, _, _, rfl, .ty T, t1, kit_ty (kit_sub ty t2 T (by simpa using hT)), t W H _ (Ex.refl _ _) hr (.bl _)⟩
    · exact t.elim
  | _ => exact t.elim
/-! sum, all, any -/
def intsM : List MV → Option (List Int)
  | [] => some []
  | .int i :: r => (intsM r).map (i :: ·)
  | _ => none
def blsM : List MV → Option (List Bool)
  | [] => some []
  | .bl i :: r => (blsM r).map (i :: ·)
  | _ => none
def strsM : List MV → Option (List Str)
  | [] => some []
  | .str i :: r => (strsM r).map (i :: ·)
  | _ => none
theorem ints_of {W : Wd} : ∀ {vs : List MV} {xs : List V} {ns : List Int}, VRs X.K mg W.F W.ρ vs xs → intsM vs = some ns → xs = ns.map V.int
  | [], _, _, .nil, e => by cases e; rfl
  | .int i :: r, _, _, .cons (.int _) t, e => by
    obtain ⟨ns, e1, rfl⟩ := Option.map_eq_some_iff.mp e
    rw [ints_of t e1]
    rfl
theorem bls_of {W : Wd} : ∀ {vs : List MV} {xs : List V} {ns : List Bool}, VRs X.K mg W.F W.ρ vs xs → blsM vs = some ns → xs = ns.map V.bl
  | [], _, _, .nil, e => by cases e; rfl
  | .bl i :: r, _, _, .cons (.bl _) t, e => by
    obtain ⟨ns, e1, rfl⟩ := Option.map_eq_some_iff.mp e
    rw [bls_of t e1]
    rfl
theorem strs_of {W : Wd} : ∀ {vs : List MV} {xs : List V} {ns : List Str}, VRs X.K mg W.F W.ρ vs xs → strsM vs = some ns → xs = ns.map V.str
  | [], _, _, .nil, e => by cases e; rfl
  | .str i :: r, _, _, .cons (.str _) t, e => by
    obtain ⟨ns, e1, rfl⟩ := Option.map_eq_some_iff.mp e
    rw [strs_of t e1]
    rfl
def fSeq {α : Type} (f : List MV → Option α) (k : α → MH → R MV) (v : MV) (h : MH) : R MV := match seqOf h v with
  | some (false, xs) => match f xs with
    | some ns => k ns h
    | none => .bad
  | _ => .bad
theorem fSeq_of {W : Wd} {h : MH} {H : Hp} {σ : L2.St} {Q : VK} {α : Type} {f : List MV → Option α} {k : α → MH → R MV} (hr : Hr X.K mg W h H) {v : MV} {x : V} (vr : VR X.K mg W.F W.ρ v x) (t : AfR X.K mg WN (relV X.K mg) W σ H Q (fSeq f k v h)) : ∃ a ys vs ns, x = .ref a ∧ SqL X.K H a ys ∧ VRs X.K mg W.F W.ρ vs ys ∧ f vs = some ns ∧ AfR X.K mg WN (relV X.K mg) W σ H Q (k ns h) := by
  unfold fSeq at t
  split at t
  · rename_i xs e
    obtain ⟨a, ys, rfl, r1, s1, s2⟩ := seq_at hr vr e
    cases e2 : f xs with
    | none => rw [e2] at t; exact t.elim
    | some ns =>
      rw [e2] at t
      exact ⟨a, ys, xs, ns, rfl, s2 rfl, r1, e2, t⟩
  · exact t.elim
theorem q_sum (hc : X.calm = true) : CallR X (.builtin "sum") (rC X.K mg (on1 (fSeq intsM fun ns h => .ok (.int ns.sum) h))) := by
  refine CallRi (cr_sum hc) (rc1 ?_)
  intro W v x h σ H Q hr vr t
  obtain ⟨a, ys, vs, ns, rfl, s1, r1, e, t⟩ := fSeq_of hr vr t
  rw [ints_of r1 e] at s1
  exact ⟨a, ns, rfl, s1, t W H _ (Ex.refl _ _) hr (.int _)⟩
theorem q_all (hc : X.calm = true) : CallR X (.builtin "all") (rC X.K mg (on1 (fSeq blsM fun ns h => .ok (.bl (ns.all id)) h))) := by
  refine CallRi (cr_all hc) (rc1 ?_)
  intro W v x h σ H Q hr vr t
  obtain ⟨a, ys, vs, ns, rfl, s1, r1, e, t⟩ := fSeq_of hr vr t
  rw [bls_of r1 e] at s1
  exact ⟨a, ns, rfl, s1, t W H _ (Ex.refl _ _) hr (.bl _)⟩
theorem q_any (hc : X.calm = true) : CallR X (.builtin "any") (rC X.K mg (on1 (fSeq blsM fun ns h => .ok (.bl (ns.any id)) h))) := by
  refine CallRi (cr_any hc) (rc1 ?_)
  intro W v x h σ H Q hr vr t
  obtain ⟨a, ys, vs, ns, rfl, s1, r1, e, t⟩ := fSeq_of hr vr t
  rw [bls_of r1 e] at s1
  exact ⟨a, ns, rfl, s1, t W H _ (Ex.refl _ _) hr (.bl _)⟩
end
/-! ### one-place operators -/
section
variable {X : Cx} {K : PySem.W.Frag} {mg : Str → Option Value} {ei : EI} {Wx : WX} {a b o : Expr} {es : List Expr} {pos p apos : Pos} {ma mb mc mo : ME} {mas : MA} {x : Str}
def mNeg (m : ME) : ME := fun s h => (m s h).bind fun v h1 => match v with
  | .int i => .ok (.int (-i)) h1
  | _ => .bad
theorem m_neg (ha : PE X a (tE K mg ei Wx ma)) : PE X (.UnaryOp .USub a pos) (tE K mg ei Wx (mNeg ma)) := by
  refine PEi (pe_un un_neg ha) fun σ H Q t => ?_
  obtain ⟨W, s, h, hr, sr, t⟩ := t
  refine (tG_bind (rel1 := relV K mg) hr sr t).post ?_
  rintro x H1 ⟨W1, v, h1, e1, hr1, sr1, vr, t1⟩
  cases vr with
  | int i => exact ⟨i, rfl, t1 W1 H1 _ (Ex.refl _ _) hr1 (.int _)⟩
  | _ => exact t1.elim
/-! ### slices -/
abbrev MP := Sm → MH → R (Option Int)
def mPn : MP := fun _ h => .ok none h
def mPs (m : ME) : MP := fun s h => (m s h).bind fun v h1 => match v with
  | .int i => .ok (some i) h1
  | _ => .bad
abbrev relP : Wd → Option Int → Option Int → Prop := fun _ a b => a = b
theorem POi {X : Cx} {e : Option Expr} {t t' : TO} (h : PO X e t) (k : ∀ σ H Q, t' σ H Q → t σ H Q) : PO X e t' := ⟨fun pins s σ H Q I a => h.run pins s σ H Q I (k σ H Q a)⟩
theorem m_pn : PO X none (tG K mg ei Wx relP mPn) := POi po_none fun σ H Q t => by
  obtain ⟨W, s, h, hr, sr, t⟩ := t
  exact t W H _ (Ex.refl _ _) hr rfl
theorem m_ps (ha : PE X a (tE K mg ei Wx ma)) : PO X (some a) (tG K mg ei Wx relP (mPs ma)) := POi (po_some ha) fun σ H Q t => by
  obtain ⟨W, s, h, hr, sr, t⟩ := t
  refine (tG_bind (rel1 := relV K mg) hr sr t).post ?_
  rintro x H1 ⟨W1, v, h1, e1, hr1, sr1, vr, t1⟩
  cases vr with
  | int i => exact ⟨i, rfl, t1 W1 H1 _ (Ex.refl _ _) hr1 rfl⟩
  | _ => exact t1.elim
def cutM {α : Type} (xs : List α) (lo hi : Option Int) : List α := (xs.drop (HT.sIx xs.length 0 lo)).take (HT.sIx xs.length xs.length hi - HT.sIx xs.length 0 lo)
theorem VRs.cut {F : Hp} {ρ : List Addr} {vs : List MV} {xs : List V} (r : VRs K mg F ρ vs xs) (lo hi : Option Int) : VRs K mg F ρ (cutM vs lo hi) (cutV xs lo hi) := by
  unfold cutM cutV
  rw [r.length]
  exact (r.drop _).take _
def fCut (md : Bool) (v : MV) (lo hi : Option Int) (h : MH) : R MV := match v with
  | .str z => if z.length ≤ 1000000 then .ok (.str (Txt.slice z lo hi)) h else .bad
  | v => match seqOf h v with
    | some (true, xs) => newT (cutM xs lo hi) h
    | some (false, xs) => newL md (cutM xs lo hi) h
    | none => .bad
def mSl (md : Bool) (m : ME) (lo hi : MP) : ME := fun s h => (m s h).bind fun v h1 => (lo s h1).bind fun l h2 => (hi s h2).bind fun u h3 => noX (fCut md v l u h3)
def rSl (K : PySem.W.Frag) (mg : Str → Option Value) (md : Bool) : V → Option Int → Option Int → Hp → VK → Prop := fun x lo hi H Q => ∃ W v h σ, Hr K mg W h H ∧ VR K mg W.F W.ρ v x ∧ AfR K mg WN (relV K mg) W σ H Q (fCut md v lo hi h)
theorem cut_full {α : Type} {xs : List α} {lo hi : Option Int} (h : HT.sIx xs.length 0 lo = 0 ∧ HT.sIx xs.length xs.length hi = xs.length) : cutM xs lo hi = xs := by
  unfold cutM
  rw [h.1, h.2, List.drop_zero, Nat.sub_zero, List.take_length]
theorem o_sl (md : Bool) : L2.SlR X (rSl X.K mg md) := by
  refine SlRi (SlR.or C8.sl_txt (SlR.or sl_tupA sl_list)) ?_
  rintro x lo hi H Q ⟨W, v, h, σ, hr, vr, t⟩
  have lists : ∀ {v : MV} {xs : List MV}, VR X.K mg W.F W.ρ v x → seqOf h v = some (false, xs) → AfR X.K mg WN (relV X.K mg) W σ H Q (newL md (cutM xs lo hi) h) → rSlL X.K x lo hi H Q := by
    intro v xs vr e t
    obtain ⟨a, ys, rfl, r1, s1, s2⟩ := seq_at hr vr e
    exact ⟨a, ys, rfl, s2 rfl, (newL_go hr (r1.cut lo hi) t).2⟩
  cases vr with
  | str z =>
    simp only [fCut] at t
    split at t
    · rename_i hl
      exact .inl ⟨z, rfl, Nat.le_trans hl (by decide), t W H _ (Ex.refl _ _) hr (.str _)⟩
    · exact t.elim
  | @tup a xs ys s1 r1 =>
    have t : AfR X.K mg WN (relV X.K mg) W σ H Q (newT (cutM xs lo hi) h) := t
    refine .inr (.inl ⟨a, ys, rfl, hr.sqt s1, fun hf => ?_, fun _ => (newT_go hr (r1.cut lo hi) t).2⟩)
    rw [← r1.length] at hf
    rw [cut_full hf] at t
    unfold newT at t
    split at t
    · exact t W H _ (Ex.refl _ _) hr (.tup s1 r1)
    · exact t.elim
  | lst p q => exact .inr (.inr (lists (.lst p q) rfl t))
  | scr p q => exact .inr (.inr (lists (.scr p q) rfl t))
  | @ref n a p =>
    simp only [fCut] at t
    split at t
    · rename_i xs e
      unfold seqOf at e
      dsimp only at e
      split at e
      · cases e
      · cases e
    · rename_i xs e
      exact .inr (.inr (lists (.ref p) e t))
    · exact t.elim
  | _ => exact t.elim
theorem m_sl (md : Bool) {lo hi : Option Expr} {ml mh : MP} {p2 : Pos} (ho : L2.SlR X (rSl K mg md)) (ha : PE X a (tE K mg ei Wx ma)) (hl : PO X lo (tG K mg ei Wx relP ml)) (hh : PO X hi (tG K mg ei Wx relP mh)) : PE X (.Subscript a (.Slice lo hi none p2) pos) (tE K mg ei Wx (mSl md ma ml mh)) := by
  refine PEi (pe_slice ho ha hl hh) fun σ H Q t => ?_
  obtain ⟨W, s, h, hr, sr, t⟩ := t
  refine (tG_bind (rel1 := relV K mg) hr sr t).post ?_
  rintro x H1 ⟨W1, v, h1, e1, hr1, sr1, vr, t1⟩
  refine (tG_bind (rel1 := relP) hr1 sr1 t1).post ?_
  rintro l H2 ⟨W2, l', h2, e2, hr2, sr2, rfl, t2⟩
  refine (tG_bind (rel1 := relP) hr2 sr2 t2).post ?_
  rintro u H3 ⟨W3, u', h3, e3, hr3, sr3, rfl, t3⟩
  exact ⟨W3, v, h3, σ, hr3, (vr.to e2).to e3, noX_go t3⟩
/-- xs[::-1] -/
def fRev (md : Bool) (v : MV) (h : MH) : R MV := match seqOf h v with
  | some (false, xs) => newL md xs.reverse h
  | _ => .bad
def mRev (md : Bool) (m : ME) : ME := fun s h => (m s h).bind fun v h1 => noX (fRev md v h1)
theorem m_rev (md : Bool) {k : Nat} {p1 p2 p3 : Pos} (hK : X.K = K) (ha : PE X a (tE K mg ei Wx ma)) : PE X (.Subscript a (.Slice none none (some (.UnaryOp .USub (.Constant (.int 1) k p1) p2)) p3) pos) (tE K mg ei Wx (mRev md ma)) := by
  refine PEi (pe_revL ha) fun σ H Q t => ?_
  obtain ⟨W, s, h, hr, sr, t⟩ := t
  refine (tG_bind (rel1 := relV K mg) hr sr t).post ?_
  rintro x H1 ⟨W1, v, h1, e1, hr1, sr1, vr, t1⟩
  have t1 := noX_go t1
  subst hK
  unfold fRev at t1
  split at t1
  · rename_i xs e
    obtain ⟨a, ys, rfl, r1, s1, s2⟩ := seq_at hr1 vr e
    exact ⟨a, ys, rfl, s2 rfl, (newL_go hr1 r1.rev t1).2⟩
  · exact t1.elim
/-! ### methods -/
def rM (K : PySem.W.Frag) (mg : Str → Option Value) (g : MV → MC) : V → List V → Hp → VK → Prop := fun x xs H Q => ∃ W v vs h σ, Hr K mg W h H ∧ VR K mg W.F W.ρ v x ∧ VRs K mg W.F W.ρ vs xs ∧ AfR K mg WN (relV K mg) W σ H Q (g v vs h)
/-- a list's method -/
def mLm (g : MV → MC) (mo : ME) (m : MA) : ME := fun s h => (mo s h).bind fun v h1 => match lstOf h1 v with
  | some _ => (m s h1).bind fun vs h2 => noX (g v vs h2)
  | none => .bad
/-- a text's method -/
def mSm (g : MV → MC) (mo : ME) (m : MA) : ME := fun s h => (mo s h).bind fun v h1 => match v with
  | .str _ => (m s h1).bind fun vs h2 => noX (g v vs h2)
  | _ => .bad
variable {name : Str} {cpos : Pos} {id : String} {g : MV → MC}
theorem m_lm (slot : Slot "list" name id) (hty : typeOf (.builtin id) = pure (.type "method_descriptor")) (hm : MtR X id (rM X.K mg g)) (ho : PE X o (tE X.K mg ei Wx mo)) (ha : PA X (a :: es) (tA X.K mg ei Wx mas))
    (hbase : attributeBase o name X.env (eval o X.env) = eval o X.env := by rfl)
    (hfew : ((backTo cpos (starEach (a :: es) X.env)).all (fun x => !x.1) && (backToKw cpos (keywordEach [] X.env)).all (fun x => x.1.isSome)
      && decide ((a :: es).length + ([] : List Keyword).length + (if ([] : List Keyword).isEmpty then 0 else 1) < 30)) = true := by rfl)
    (hline : (apos.endLine == cpos.line) = true := by rfl) (hs : starEach (a :: es) X.env = (false, eval a X.env) :: starEach es X.env := by rfl) (hplain : (backTo cpos (starEach es X.env)).any (·.1) = false := by rfl) :
    PE X (.Call (.Attribute o name apos) (a :: es) [] cpos) (tE X.K mg ei Wx (mLm g mo mas)) := by
  refine PEi (pe_bm PySem.F.plainAttrs_list slot hty hm ho ha hbase hfew hline hs hplain) fun σ H Q t => ?_
  obtain ⟨W, s, h, hr, sr, t⟩ := t
  refine (tG_bind (rel1 := relV X.K mg) hr sr t).post ?_
  rintro x H1 ⟨W1, v, h1, e1, hr1, sr1, vr, t1⟩
  cases e : lstOf h1 v with
  | none => rw [e] at t1; exact t1.elim
  | some xs =>
    rw [e] at t1
    obtain ⟨p, ys, rfl, r1, z1⟩ := lst_at hr1 vr e
    refine ⟨.inl ⟨rfl, _, sl_of z1⟩, ?_⟩
    refine (tG_bind (rel1 := relVs X.K mg) hr1 sr1 t1).post ?_
    rintro xs H2 ⟨W2, vs, h2, e2, hr2, sr2, vrs, t2⟩
    exact ⟨W2, v, vs, h2, σ, hr2, vr.to e2, vrs, noX_go t2⟩
theorem m_lm0 (slot : Slot "list" name id) (hty : typeOf (.builtin id) = pure (.type "method_descriptor")) (hm : MtR X id (rM X.K mg g)) (ho : PE X o (tE X.K mg ei Wx mo))
    (hbase : attributeBase o name X.env (eval o X.env) = eval o X.env := by rfl) (hline : (apos.endLine == cpos.line) = true := by rfl) : PE X (.Call (.Attribute o name apos) [] [] cpos) (tE X.K mg ei Wx (mLm g mo mNil)) := by
  refine PEi (pe_bm0 PySem.F.plainAttrs_list slot hty hm ho hbase hline) fun σ H Q t => ?_
  obtain ⟨W, s, h, hr, sr, t⟩ := t
  refine (tG_bind (rel1 := relV X.K mg) hr sr t).post ?_
  rintro x H1 ⟨W1, v, h1, e1, hr1, sr1, vr, t1⟩
  cases e : lstOf h1 v with
  | none => rw [e] at t1; exact t1.elim
  | some xs =>
    rw [e] at t1
    obtain ⟨p, ys, rfl, r1, z1⟩ := lst_at hr1 vr e
    exact ⟨.inl ⟨rfl, _, sl_of z1⟩, W1, v, [], h1, σ, hr1, vr, .nil, noX_go t1⟩
theorem m_sm0 (slot : Slot "str" name id) (hty : typeOf (.builtin id) = pure (.type "method_descriptor")) (hm : MtR X id (rM K mg g)) (ho : PE X o (tE K mg ei Wx mo))
    (hbase : attributeBase o name X.env (eval o X.env) = eval o X.env := by rfl) (hline : (apos.endLine == cpos.line) = true := by rfl) : PE X (.Call (.Attribute o name apos) [] [] cpos) (tE K mg ei Wx (mSm g mo mNil)) := by
  refine PEi (pe_m0 slot hty hm ho hbase hline) fun σ H Q t => ?_
  obtain ⟨W, s, h, hr, sr, t⟩ := t
  refine (tG_bind (rel1 := relV K mg) hr sr t).post ?_
  rintro x H1 ⟨W1, v, h1, e1, hr1, sr1, vr, t1⟩
  cases vr with
  | str z => exact ⟨⟨z, rfl⟩, W1, .str z, [], h1, σ, hr1, .str z, .nil, noX_go t1⟩
  | _ => exact t1.elim
theorem m_sm1 (slot : Slot "str" name id) (hty : typeOf (.builtin id) = pure (.type "method_descriptor")) (hm : MtR X id (rM K mg g)) (ho : PE X o (tE K mg ei Wx mo)) (ha : PE X a (tE K mg ei Wx ma)) (hs : starEach [a] X.env = [(false, eval a X.env)] := by rfl)
    (hbase : attributeBase o name X.env (eval o X.env) = eval o X.env := by rfl) (hline : (apos.endLine == cpos.line) = true := by rfl) : PE X (.Call (.Attribute o name apos) [a] [] cpos) (tE K mg ei Wx (mSm g mo (mCons ma mNil))) := by
  refine PEi (pe_m1 slot hty hm ho ha hs hbase hline) fun σ H Q t => ?_
  obtain ⟨W, s, h, hr, sr, t⟩ := t
  refine (tG_bind (rel1 := relV K mg) hr sr t).post ?_
  rintro x H1 ⟨W1, v, h1, e1, hr1, sr1, vr, t1⟩
  cases vr with
  | str z =>
    refine ⟨⟨z, rfl⟩, ?_⟩
    have e : ((mCons ma mNil s h1).bind fun vs h2 => noX (g (.str z) vs h2)) = (ma s h1).bind fun v h2 => noX (g (.str z) [v] h2) := by
      unfold mCons mNil
      cases ma s h1 <;> rfl
    simp only [e] at t1
    refine (tG_bind (rel1 := relV K mg) hr1 sr1 t1).post ?_
    rintro y H2 ⟨W2, w, h2, e2, hr2, sr2, wr, t2⟩
    exact ⟨W2, .str z, [w], h2, σ, hr2, .str z, .cons wr .nil, noX_go t2⟩
  | _ => exact t1.elim
end
section
variable {X : Cx} {mg : Str → Option Value}
/-- the list at a place of the small heap, and what comes of it -/
def onL (f : Nat → List MV → List MV → MH → R MV) : MV → MC := fun v vs h => match v with
  | .ref n => match h[n]? with
    | some (.lst xs) => f n xs vs h
    | _ => .bad
  | _ => .bad
theorem onL_of {W : Wd} {h : MH} {H : Hp} {σ : L2.St} {Q : VK} {f : Nat → List MV → List MV → MH → R MV} {v : MV} {vs : List MV} {x : V} (hr : Hr X.K mg W h H) (vr : VR X.K mg W.F W.ρ v x) (t : AfR X.K mg WN (relV X.K mg) W σ H Q (onL f v vs h)) :
    ∃ n a xs ys, v = .ref n ∧ x = .ref a ∧ W.ρ[n]? = some a ∧ h[n]? = some (.lst xs) ∧ H a = some (.lst ys) ∧ VRs X.K mg W.F W.ρ xs ys ∧ AfR X.K mg WN (relV X.K mg) W σ H Q (f n xs vs h) := by
  cases vr with
  | @ref n a p =>
    simp only [onL] at t
    split at t
    · rename_i xs he
      obtain ⟨a', u, e1, e2, e3⟩ := hr.at he
      rw [p] at e1
      cases e1
      cases e3 with
      | lst e3 => exact ⟨n, a, xs, _, rfl, rfl, p, he, e2, e3, t⟩
    · exact t.elim
  | _ => exact t.elim
def lAppend : MV → MC := onL fun n xs vs h => match vs with
  | [v] => if xs.length < 1000000 then .ok .non (h.set n (.lst (xs ++ [v]))) else .bad
  | _ => .bad
theorem l_append : MtR X "list.append" (rM X.K mg lAppend) := by
  refine MtRi mt_append ?_
  rintro x xs H Q ⟨W, v, vs, h, σ, hr, vr, vrs, t⟩
  obtain ⟨n, a, zs, ys, rfl, rfl, p, he, e2, e3, t⟩ := onL_of hr vr t
  match vs, vrs, t with
  | [], _, t => exact t.elim
  | [w], vrs, t =>
    obtain ⟨y, rfl, wr⟩ := vrs1 vrs
    simp only at t
    split at t
    · rename_i hl
      obtain ⟨r1, r2⟩ := hr.set (o := .lst (zs ++ [w])) (u := .lst (ys ++ [y])) p (.lst (e3.app (.cons wr .nil)))
      exact ⟨a, ys, y, rfl, rfl, e2, by rw [← e3.length]; exact Nat.lt_of_lt_of_le hl (by decide), t W _ _ r2 r1 .non⟩
    · exact t.elim
  | _ :: _ :: _, _, t => exact t.elim
def lPop : MV → MC := onL fun n xs vs h => match vs with
  | [] => match xs[xs.length - 1]? with
    | some y => .ok y (h.set n (.lst xs.dropLast))
    | none => .bad
  | u :: r => match r with
    | [] => match u with
      | .int i => if -(2 ^ 63) ≤ i ∧ i < 2 ^ 63 then (match seqIndex? i xs.length with
        | some k => match xs[k]? with
          | some y => .ok y (h.set n (.lst (xs.eraseIdx k)))
          | none => .bad
        | none => .bad) else .bad
      | _ => .bad
    | _ => .bad
theorem VRs.dropLast {K : PySem.W.Frag} {F : Hp} {ρ : List Addr} {vs : List MV} {xs : List V} (r : VRs K mg F ρ vs xs) : VRs K mg F ρ vs.dropLast xs.dropLast := by
  rw [List.dropLast_eq_take, List.dropLast_eq_take, r.length]
  exact r.take _
theorem l_pop : MtR X "list.pop" (rM X.K mg lPop) := by
  have both : MtR X "list.pop" (fun x xs H Q => rPop x xs H Q ∨ rPopAt x xs H Q) := MtR.or mt_pop mt_popAt
  refine MtRi both ?_
  rintro x xs H Q ⟨W, v, vs, h, σ, hr, vr, vrs, t⟩
  obtain ⟨n, a, zs, ys, rfl, rfl, p, he, e2, e3, t⟩ := onL_of hr vr t
  match vs, vrs, t with
  | [], vrs, t =>
    cases vrs
    left
    cases e : zs[zs.length - 1]? with
    | none => simp only [e] at t; exact t.elim
    | some u =>
      simp only [e] at t
      obtain ⟨y, e4, ur⟩ := e3.get e
      obtain ⟨r1, r2⟩ := hr.set (o := .lst zs.dropLast) (u := .lst ys.dropLast) p (.lst e3.dropLast)
      refine ⟨a, ys, y, rfl, rfl, e2, by rw [← e3.length]; exact e4, t W _ _ r2 r1 ur⟩
  | [u], vrs, t =>
    obtain ⟨y, rfl, wr⟩ := vrs1 vrs
    right
    cases u with
    | int i => ?_
    | _ => exact t.elim
    cases wr
    simp only at t
    split at t
    · rename_i hc
      cases e : seqIndex? i zs.length with
      | none => simp only [e] at t; exact t.elim
      | some k =>
        cases e5 : zs[k]? with
        | none => simp only [e, e5] at t; exact t.elim
        | some u =>
          simp only [e, e5] at t
          obtain ⟨y, e4, ur⟩ := e3.get e5
          obtain ⟨r1, r2⟩ := hr.set (o := .lst (zs.eraseIdx k)) (u := .lst (ys.eraseIdx k)) p (.lst (e3.erase k))
          exact ⟨a, ys, i, k, y, rfl, rfl, e2, hc.1, hc.2, by rw [← e3.length]; exact e, e4, t W _ _ r2 r1 ur⟩
    · exact t.elim
  | _ :: _ :: _, _, t => exact t.elim
def sUpper : MV → MC := fun v vs h => match v with
  | .str a => match vs with
    | [] => if a.length ≤ 1000000 then .ok (.str (Txt.upper a)) h else .bad
    | _ => .bad
  | _ => .bad
theorem s_upper : MtR X "str.upper" (rM X.K mg sUpper) := by
  refine MtRi mt_upper ?_
  rintro x xs H Q ⟨W, v, vs, h, σ, hr, vr, vrs, t⟩
  cases vr with
  | str a =>
    cases vrs with
    | nil =>
      simp only [sUpper] at t
      split at t
      · rename_i hl
        exact ⟨a, rfl, rfl, by omega, t W H _ (Ex.refl _ _) hr (.str _)⟩
      · exact t.elim
    | cons _ _ => exact t.elim
  | _ => exact t.elim
end
end M
set_option Elab.async false
set_option linter.all false
set_option maxRecDepth 100000
set_option maxHeartbeats 4000000
namespace M
open PySem PySem.Spec L2 G
/-! ### statements -/
inductive Fl where
  | nx | rt (v : MV) | bk | ct
inductive RS where
  | ok (f : Fl) (s : Sm) (h : MH) | exc (c : Str) (fs : Fs) (s : Sm) (h : MH) | bad
abbrev MS := Sm → MH → RS
def lift {α : Type} (r : R α) (s : Sm) (k : α → MH → RS) : RS :=
  match r with
  | .ok a h => k a h
  | .exc c fs h => .exc c fs s h
  | .bad => .bad
@[simp] theorem lift_ok {α : Type} (a : α) (h : MH) (s : Sm) (k : α → MH → RS) : lift (R.ok a h) s k = k a h := rfl
@[simp] theorem lift_exc {α : Type} (c : Str) (fs : Fs) (h : MH) (s : Sm) (k : α → MH → RS) : lift (R.exc c fs h) s k = .exc c fs s h := rfl
@[simp] theorem lift_bad {α : Type} (s : Sm) (k : α → MH → RS) : lift R.bad s k = .bad := rfl
def seqS (r : RS) (k : Sm → MH → RS) : RS :=
  match r with
  | .ok f s h => match f with
    | .nx => k s h
    | f => .ok f s h
  | r => r
@[simp] theorem seqS_nx (s : Sm) (h : MH) (k : Sm → MH → RS) : seqS (.ok .nx s h) k = k s h := rfl
@[simp] theorem seqS_rt (v : MV) (s : Sm) (h : MH) (k : Sm → MH → RS) : seqS (.ok (.rt v) s h) k = .ok (.rt v) s h := rfl
@[simp] theorem seqS_bk (s : Sm) (h : MH) (k : Sm → MH → RS) : seqS (.ok .bk s h) k = .ok .bk s h := rfl
@[simp] theorem seqS_ct (s : Sm) (h : MH) (k : Sm → MH → RS) : seqS (.ok .ct s h) k = .ok .ct s h := rfl
@[simp] theorem seqS_exc (c : Str) (fs : Fs) (s : Sm) (h : MH) (k : Sm → MH → RS) : seqS (.exc c fs s h) k = .exc c fs s h := rfl
@[simp] theorem seqS_bad (k : Sm → MH → RS) : seqS .bad k = .bad := rfl
section
variable (K : PySem.W.Frag) (mg : Str → Option Value) (ei : EI) (Wx : WX)
def EndF (W : Wd) (D : Ends) (σ : L2.St) (H : Hp) : Fl → Prop
  | .nx => D.nx σ H
  | .rt v => ∀ x, VR K mg W.F W.ρ v x → D.rt x H
  | .bk => D.bk σ H
  | .ct => D.ct σ H
def AfS (W : Wd) (H : Hp) (D : Ends) : RS → Prop
  | .ok f s' h' => ∀ W' σ' H', Ex W H W' H' → Hr K mg W' h' H' → Sr K mg ei W' s' σ' → EndF K mg W' D σ' H' f
  | .exc c fs s' h' => ∀ W' σ' H' C d gs, Ex W H W' H' → Hr K mg W' h' H' → Sr K mg ei W' s' σ' → mg c = some (.ref C) → W'.F d = some (.xd gs) → FR K mg W'.F W'.ρ fs gs → Wx (.ref C) (some d) σ' H'
  | .bad => False
def tS (m : MS) : TS := fun D σ H => ∃ W s h, Hr K mg W h H ∧ Sr K mg ei W s σ ∧ AfS K mg ei Wx W H D (m s h)
end
section
variable {K : PySem.W.Frag} {mg : Str → Option Value} {ei : EI} {Wx : WX} {W : Wd} {s : Sm} {σ : L2.St} {h : MH} {H : Hp} {D : Ends}
theorem AfS.mono {r : RS} {W0 : Wd} {H0 : Hp} (e : Ex W0 H0 W H) (a : AfS K mg ei Wx W0 H0 D r) : AfS K mg ei Wx W H D r := by
  cases r with
  | ok f s' h' => exact fun W' σ' H' e1 => a W' σ' H' (e.trans e1)
  | exc c fs s' h' => exact fun W' σ' H' C d gs e1 => a W' σ' H' C d gs (e.trans e1)
  | bad => exact a
theorem tG_lift {γ δ : Type} {rel1 : Wd → γ → δ → Prop} {m : Sm → MH → R γ} {k : γ → MH → RS} (hr : Hr K mg W h H) (sr : Sr K mg ei W s σ) (a : AfS K mg ei Wx W H D (lift (m s h) s k)) :
    tG K mg ei Wx rel1 m σ H fun x H1 => ∃ W1 v h1, Ex W H W1 H1 ∧ Hr K mg W1 h1 H1 ∧ Sr K mg ei W1 s σ ∧ rel1 W1 v x ∧ AfS K mg ei Wx W1 H1 D (k v h1) := by
  refine ⟨W, s, h, hr, sr, ?_⟩
  cases e : m s h with
  | ok v h1 =>
    rw [e] at a
    exact fun W1 H1 x e1 e2 e3 => ⟨W1, v, h1, e1, e2, sr.to e1, e3, a.mono e1⟩
  | exc c fs h1 =>
    rw [e] at a
    exact fun W' H' C d gs e1 e2 e3 e4 e5 => a W' σ H' C d gs e1 e2 (sr.to e1) e3 e4 e5
  | bad =>
    rw [e] at a
    exact a
theorem AfS.seq {r : RS} {k : MS} (a : AfS K mg ei Wx W H D (seqS r k)) : AfS K mg ei Wx W H { D with nx := tS K mg ei Wx k D } r := by
  cases r with
  | ok f s' h' =>
    cases f with
    | nx => exact fun W' σ' H' e1 e2 e3 => ⟨W', s', h', e2, e3, a.mono e1⟩
    | rt v => exact a
    | bk => exact a
    | ct => exact a
  | exc c fs s' h' => exact a
  | bad => exact a
end
section
variable {X : Cx} {K : PySem.W.Frag} {mg : Str → Option Value} {ei : EI} {Wx : WX} {a b o : Expr} {es : List Expr} {pos p apos : Pos} {ma mb mc mo : ME} {mas : MA} {x : Str} {st : Stmt} {sts : List Stmt} {m m1 m2 : MS} {mt : MT}
def mNx : MS := fun s h => .ok .nx s h
def mSeq (m1 m2 : MS) : MS := fun s h => seqS (m1 s h) m2
theorem m_ss0 : PSs X [] (tS K mg ei Wx mNx) := by
  refine PSsi pss_nil fun D σ H t => ?_
  obtain ⟨W, s, h, hr, sr, t⟩ := t
  exact t W σ H (Ex.refl _ _) hr sr
theorem m_ss (h1 : PS X st (tS K mg ei Wx m1)) (h2 : PSs X sts (tS K mg ei Wx m2)) : PSs X (st :: sts) (tS K mg ei Wx (mSeq m1 m2)) := by
  refine PSsi (pss_cons h1 h2) fun D σ H t => ?_
  obtain ⟨W, s, h, hr, sr, t⟩ := t
  exact ⟨W, s, h, hr, sr, t.seq⟩
theorem m_ss1 (h1 : PS X st (tS K mg ei Wx m1)) : PSs X [st] (tS K mg ei Wx m1) := pss_one h1
def mDrop (m : ME) : MS := fun s h => lift (m s h) s fun _ h1 => .ok .nx s h1
theorem m_expr (ha : PE X a (tE K mg ei Wx ma)) (hs : swapsWith a none pos.line X.env = pure false := by rfl) : PS X (.Expr a pos) (tS K mg ei Wx (mDrop ma)) := by
  refine PSi (ps_expr ha hs) fun D σ H t => ?_
  obtain ⟨W, s, h, hr, sr, t⟩ := t
  refine (tG_lift (rel1 := relV K mg) hr sr t).post ?_
  rintro x H1 ⟨W1, v, h1, e1, hr1, sr1, vr, t1⟩
  exact t1 W1 σ H1 (Ex.refl _ _) hr1 sr1
def mRet (m : ME) : MS := fun s h => lift (m s h) s fun v h1 => .ok (.rt v) s h1
theorem m_ret (ha : PE X a (tE K mg ei Wx ma)) : PS X (.Return (some a) pos) (tS K mg ei Wx (mRet ma)) := by
  refine PSi (ps_ret ha) fun D σ H t => ?_
  obtain ⟨W, s, h, hr, sr, t⟩ := t
  refine (tG_lift (rel1 := relV K mg) hr sr t).post ?_
  rintro x H1 ⟨W1, v, h1, e1, hr1, sr1, vr, t1⟩
  exact t1 W1 σ H1 (Ex.refl _ _) hr1 sr1 x vr
def mRetN : MS := fun s h => .ok (.rt .non) s h
theorem m_retN : PS X (.Return none pos) (tS K mg ei Wx mRetN) := by
  refine PSi ps_retN fun D σ H t => ?_
  obtain ⟨W, s, h, hr, sr, t⟩ := t
  exact t W σ H (Ex.refl _ _) hr sr _ .non
def mIfS (mt : MT) (m1 m2 : MS) : MS := fun s h => lift (mt s h) s fun b h1 => if b = true then m1 s h1 else m2 s h1
theorem m_ifS {c : Expr} {s1 s2 : List Stmt} (hc : PT X c (tT K mg ei Wx mt)) (h1 : PSs X s1 (tS K mg ei Wx m1)) (h2 : PSs X s2 (tS K mg ei Wx m2)) : PS X (.If c s1 s2 pos) (tS K mg ei Wx (mIfS mt m1 m2)) := by
  refine PSi (ps_if hc h1 h2) fun D σ H t => ?_
  obtain ⟨W, s, h, hr, sr, t⟩ := t
  refine (tG_lift (rel1 := relB) hr sr t).post ?_
  rintro x H1 ⟨W1, v, h1, e1, hr1, sr1, rfl, t1⟩
  cases v with
  | true => exact ⟨W1, s, h1, hr1, sr1, t1⟩
  | false => exact ⟨W1, s, h1, hr1, sr1, t1⟩
def mBk : MS := fun s h => .ok .bk s h
def mCt : MS := fun s h => .ok .ct s h
theorem m_pass : PS X (.Pass pos) (tS K mg ei Wx mNx) := PSi ps_pass fun D σ H t => by
  obtain ⟨W, s, h, hr, sr, t⟩ := t
  exact t W σ H (Ex.refl _ _) hr sr
theorem m_break : PS X (.Break pos) (tS K mg ei Wx mBk) := PSi ps_break fun D σ H t => by
  obtain ⟨W, s, h, hr, sr, t⟩ := t
  exact t W σ H (Ex.refl _ _) hr sr
theorem m_continue : PS X (.Continue pos) (tS K mg ei Wx mCt) := PSi ps_continue fun D σ H t => by
  obtain ⟨W, s, h, hr, sr, t⟩ := t
  exact t W σ H (Ex.refl _ _) hr sr
/-! ### targets -/
abbrev MG := MV → Sm → MH → R Sm
abbrev MGs := List MV → Sm → MH → R Sm
structure Off (js : List Nat) (σ σ' : L2.St) : Prop where
  len : σ'.length = σ.length
  at_ : ∀ i, i ∉ js → σ'[i]? = σ[i]?
theorem Off.refl (js : List Nat) (σ : L2.St) : Off js σ σ := ⟨rfl, fun _ _ => rfl⟩
theorem Off.trans {js : List Nat} {σ σ1 σ2 : L2.St} (a : Off js σ σ1) (b : Off js σ1 σ2) : Off js σ σ2 := ⟨b.len.trans a.len, fun i hi => (b.at_ i hi).trans (a.at_ i hi)⟩
theorem Off.set {js : List Nat} {i : Nat} (hi : i ∈ js) (σ : L2.St) (v : Option V) : Off js σ (σ.set i v) := ⟨List.length_set, fun j hj => by
  rw [List.getElem?_set_ne]
  rintro rfl
  exact hj hi⟩
def AfT (K : PySem.W.Frag) (mg : Str → Option Value) (ei : EI) (Wx : WX) (js : List Nat) (W : Wd) (σ : L2.St) (H : Hp) (QS : L2.St → Hp → Prop) : R Sm → Prop
  | .ok s' h' => ∀ W' H' σ', Ex W H W' H' → Hr K mg W' h' H' → Sr K mg ei W' s' σ' → Off js σ σ' → QS σ' H'
  | .exc c fs h' => ∀ W' H' C d gs, Ex W H W' H' → Hr K mg W' h' H' → mg c = some (.ref C) → W'.F d = some (.xd gs) → FR K mg W'.F W'.ρ fs gs → Wx (.ref C) (some d) σ H'
  | .bad => False
def tGt (K : PySem.W.Frag) (mg : Str → Option Value) (ei : EI) (Wx : WX) (js : List Nat) (m : MG) : TG := fun x σ H QS => ∃ W s h v, Hr K mg W h H ∧ Sr K mg ei W s σ ∧ VR K mg W.F W.ρ v x ∧ AfT K mg ei Wx js W σ H QS (m v s h)
def tGts (K : PySem.W.Frag) (mg : Str → Option Value) (ei : EI) (Wx : WX) (js : List Nat) (m : MGs) : TGs := fun xs σ H QS => ∃ W s h vs, Hr K mg W h H ∧ Sr K mg ei W s σ ∧ VRs K mg W.F W.ρ vs xs ∧ AfT K mg ei Wx js W σ H QS (m vs s h)
theorem PGi {X : Cx} {e : Expr} {t t' : TG} (h : PG X e t) (k : ∀ v σ H Q, t' v σ H Q → t v σ H Q) : PG X e t' := ⟨fun pins s σ H v u Q I r a => h.run pins s σ H v u Q I r (k _ _ _ _ a)⟩
theorem PGsi {X : Cx} {e : List Expr} {t t' : TGs} (h : PGs X e t) (k : ∀ v σ H Q, t' v σ H Q → t v σ H Q) : PGs X e t' := ⟨fun pins s σ H v u Q I r a => h.run pins s σ H v u Q I r (k _ _ _ _ a)⟩
def gN (i : Nat) : MG := fun v s h => .ok (s.set i (.val v)) h
theorem m_gn {i : Nat} {js : List Nat} (h : PG X a (gName i)) (hi : i ∈ js) : PG X a (tGt K mg ei Wx js (gN i)) := by
  refine PGi h fun x σ H Q t => ?_
  obtain ⟨W, s, h, v, hr, sr, vr, t⟩ := t
  exact t W H _ (Ex.refl _ _) hr (sr.set ⟨x, rfl, vr⟩) (Off.set hi σ _)
def gs0 : MGs := fun vs s h => match vs with
  | [] => .ok s h
  | _ => .bad
def gs1 (g : MG) (gs : MGs) : MGs := fun vs s h => match vs with
  | [] => .bad
  | v :: r => (noX (g v s h)).bind fun s1 h1 => noX (gs r s1 h1)
theorem m_gs0 {js : List Nat} : PGs X [] (tGts K mg ei Wx js gs0) := by
  refine PGsi pgs_nil fun x σ H Q t => ?_
  obtain ⟨W, s, h, v, hr, sr, vr, t⟩ := t
  cases vr with
  | nil => exact ⟨rfl, t W H σ (Ex.refl _ _) hr sr (Off.refl _ _)⟩
  | cons _ _ => exact t.elim
theorem m_gs1 {g : MG} {gs : MGs} {js : List Nat} (h1 : PG X a (tGt K mg ei WN js g)) (h2 : PGs X es (tGts K mg ei Wx js gs))
    (q : ∀ {t : TG} {u : TGs}, PG X a t → PGs X es u → PGs X (a :: es) (gCons t u)) : PGs X (a :: es) (tGts K mg ei Wx js (gs1 g gs)) := by
  refine PGsi (q h1 h2) fun x σ H Q t => ?_
  obtain ⟨W, s, h, v, hr, sr, vr, t⟩ := t
  cases vr with
  | nil => exact t.elim
  | @cons v x vs xs q1 q2 =>
    refine ⟨x, xs, rfl, W, s, h, v, hr, sr, q1, ?_⟩
    simp only [gs1] at t
    cases e : g v s h with
    | ok s1 h1 =>
      rw [e] at t
      intro W1 H1 σ1 e1 hr1 sr1 of1
      refine ⟨W1, s1, h1, vs, hr1, sr1, q2.to e1, ?_⟩
      have t : AfT K mg ei Wx js W σ H Q (noX (gs vs s1 h1)) := t
      cases e2 : gs vs s1 h1 with
      | ok s2 h2 =>
        rw [e2] at t
        exact fun W2 H2 σ2 e3 hr2 sr2 of2 => t W2 H2 σ2 (e1.trans e3) hr2 sr2 (of1.trans of2)
      | exc c fs h2 =>
        rw [e2] at t
        exact t.elim
      | bad =>
        rw [e2] at t
        exact t
    | exc c fs h1 =>
      rw [e] at t
      exact t.elim
    | bad =>
      rw [e] at t
      exact t
def gTp (n : Nat) (gs : MGs) : MG := fun v s h => match v with
  | .tup xs => if xs.length = n then noX (gs xs s h) else .bad
  | _ => .bad
theorem m_gt {gs : MGs} {js : List Nat} {k n : Nat} (h : PGs X es (tGts X.K mg ei WN js gs)) (hc : X.calm = true) (hn : (assignEach es X.env).length = n := by rfl) (hst : (assignEach es X.env).findIdx? (·.1) = none := by rfl) : PG X (.Tuple es k pos) (tGt X.K mg ei Wx js (gTp n gs)) := by
  refine PGi (pg_tup hc h hn hst) fun x σ H Q t => ?_
  obtain ⟨W, s, h, v, hr, sr, vr, t⟩ := t
  cases vr with
  | @tup a xs ys s1 r1 =>
    simp only [gTp] at t
    split at t
    · rename_i hl
      refine ⟨a, ys, rfl, hr.sqt s1, by rw [← r1.length]; exact hl, W, s, h, xs, hr, sr, r1, ?_⟩
      cases e : gs xs s h with
      | ok s2 h2 =>
        rw [e] at t
        exact t
      | exc c fs h2 =>
        rw [e] at t
        exact t.elim
      | bad =>
        rw [e] at t
        exact t.elim
    · exact t.elim
  | _ => exact t.elim
/-- target = value -/
def mAsg (m : ME) (g : MG) : MS := fun s h => lift (m s h) s fun v h1 => lift (g v s h1) s fun s1 h2 => .ok .nx s1 h2
theorem t_asg {g : MG} {js : List Nat} {D : Ends} {σ : L2.St} {H : Hp} (t : tS K mg ei Wx (mAsg ma g) D σ H) : tAsg (tE K mg ei Wx ma) (tGt K mg ei Wx js g) D σ H := by
  obtain ⟨W, s, h, hr, sr, t⟩ := t
  refine (tG_lift (rel1 := relV K mg) hr sr t).post ?_
  rintro x H1 ⟨W1, v, h1, e1, hr1, sr1, vr, t1⟩
  refine ⟨W1, s, h1, v, hr1, sr1, vr, ?_⟩
  cases e : g v s h1 with
  | ok s2 h2 =>
    rw [e] at t1
    exact fun W' H' σ' e1 hr' sr' _ => t1 W' σ' H' e1 hr' sr'
  | exc c fs h2 =>
    rw [e] at t1
    exact fun W' H' C d gs e2 hr' e3 e4 e5 => t1 W' σ H' C d gs e2 hr' (sr1.to e2) e3 e4 e5
  | bad =>
    rw [e] at t1
    exact t1
theorem m_asg {g : MG} {js : List Nat} (he : PE X a (tE K mg ei Wx ma)) (hg : PG X b (tGt K mg ei Wx js g)) (q : ∀ {te : TE} {tg : TG}, PE X a te → PG X b tg → PS X st (tAsg te tg)) : PS X st (tS K mg ei Wx (mAsg ma g)) := PSi (q he hg) fun _ _ _ t => t_asg t
def mSet (i : Nat) (m : ME) : MS := fun s h => lift (m s h) s fun v h1 => .ok .nx (s.set i (.val v)) h1
theorem m_set {i : Nat} (he : PE X a (tE K mg ei Wx ma)) (q : ∀ {te : TE}, PE X a te → PS X st (tAsg te (gName i))) : PS X st (tS K mg ei Wx (mSet i ma)) := by
  refine PSi (q he) fun D σ H t => ?_
  obtain ⟨W, s, h, hr, sr, t⟩ := t
  refine (tG_lift (rel1 := relV K mg) hr sr t).post ?_
  rintro x H1 ⟨W1, v, h1, e1, hr1, sr1, vr, t1⟩
  exact t1 W1 _ H1 (Ex.refl _ _) hr1 (sr1.set ⟨x, rfl, vr⟩)
/-- a, b = e1, e2 -/
def mPar (i j : Nat) (m : MA) : MS := fun s h => lift (m s h) s fun vs h1 => match vs with
  | [v, w] => .ok .nx ((s.set i (.val v)).set j (.val w)) h1
  | _ => .bad
theorem m_par {i j : Nat} (ha : PA X es (tA K mg ei Wx mas)) (q : ∀ {ta : TA}, PA X es ta → PS X st (tPar i j ta)) : PS X st (tS K mg ei Wx (mPar i j mas)) := by
  refine PSi (q ha) fun D σ H t => ?_
  obtain ⟨W, s, h, hr, sr, t⟩ := t
  refine (tG_lift (rel1 := relVs K mg) hr sr t).post ?_
  rintro xs H1 ⟨W1, vs, h1, e1, hr1, sr1, vr, t1⟩
  match vs, vr, t1 with
  | [], _, t1 => exact t1.elim
  | [_], _, t1 => exact t1.elim
  | [v, w], vr, t1 =>
    obtain ⟨x, y, rfl, r1, r2⟩ := vrs2 vr
    exact ⟨x, y, rfl, t1 W1 _ H1 (Ex.refl _ _) hr1 ((sr1.set (a := .val v) (x := some x) ⟨x, rfl, r1⟩).set (a := .val w) (x := some y) ⟨y, rfl, r2⟩)⟩
  | _ :: _ :: _ :: _, _, t1 => exact t1.elim
/-- o[i] = v, a list -/
def gSb (mo mi : ME) : MG := fun v s h => (mo s h).bind fun o h1 => (mi s h1).bind fun i h2 => match o with
  | .ref n => match h2[n]? with
    | some (.lst xs) => match i with
      | .int k => match ixN xs.length k with
        | some j => .ok s (h2.set n (.lst (xs.set j v)))
        | none => .bad
      | _ => .bad
    | _ => .bad
  | _ => .bad
theorem m_sub {js : List Nat} (ho : PE X a (tE K mg ei Wx ma)) (hi : PE X b (tE K mg ei Wx mb)) (q : ∀ {to ti : TE}, PE X a to → PE X b ti → PG X o (gSub to ti rSetL)) : PG X o (tGt K mg ei Wx js (gSb ma mb)) := by
  refine PGi (q ho hi) fun x σ H Q t => ?_
  obtain ⟨W, s, h, v, hr, sr, vr, t⟩ := t
  show tE K mg ei Wx ma σ H _
  refine ⟨W, s, h, hr, sr, ?_⟩
  unfold gSb at t
  cases e : ma s h with
  | exc c fs h1 => rw [e] at t; exact t
  | bad => rw [e] at t; exact t
  | ok o' h1 =>
    rw [e] at t
    intro W1 H1 x1 e1 hr1 vr1
    show tE K mg ei Wx mb σ H1 _
    refine ⟨W1, s, h1, hr1, sr.to e1, ?_⟩
    rw [bind_ok] at t
    cases e2 : mb s h1 with
    | exc c fs h2 => rw [e2] at t; exact fun W2 H2 C d gs e3 => t W2 H2 C d gs (e1.trans e3)
    | bad => rw [e2] at t; exact t
    | ok i' h2 =>
      rw [e2, bind_ok] at t
      intro W2 H2 x2 e3 hr2 vr2
      have vr1' := vr1.to e3
      cases vr1' with
      | @ref n p z =>
        simp only at t
        split at t
        · rename_i xs he
          cases i' with
          | int k =>
            simp only at t
            cases vr2
            split at t
            · rename_i j hj
              obtain ⟨a', u, q1, q2, q3⟩ := hr2.at he
              rw [z] at q1
              cases q1
              cases q3 with
              | @lst _ ys q3 =>
                obtain ⟨r1, r2⟩ := hr2.set (o := .lst (xs.set j v)) (u := .lst (ys.set j x)) z (.lst (q3.set ((vr.to e1).to e3) j))
                exact ⟨p, ys, k, j, rfl, rfl, q2, by rw [← q3.length]; exact hj, t W2 _ σ ((e1.trans e3).trans r2) r1 ((sr.to e1).to e3) (Off.refl _ _)⟩
            · exact t.elim
          | _ => exact t.elim
        · exact t.elim
      | _ => exact t.elim
end
end M
set_option Elab.async false
set_option linter.all false
set_option maxRecDepth 100000
set_option maxHeartbeats 4000000
namespace M
open PySem PySem.Spec L2 G
/-! ### what is walked -/
structure Src where
  its : List MV
  at_ : Option Nat
def Src.Ok (c : Src) (h : MH) : Prop := match c.at_ with
  | none => True
  | some n => h[n]? = some (.lst c.its)
open Classical in
noncomputable instance (c : Src) (h : MH) : Decidable (c.Ok h) := propDecidable _
@[simp] theorem src_ok (xs : List MV) (h : MH) : (Src.mk xs none).Ok h := trivial
abbrev MI := Sm → MH → R Src
def relI (K : PySem.W.Frag) (mg : Str → Option Value) : Wd → Src → It → Prop := fun W c J => ∀ W' H' h', W.le W' → Hr K mg W' h' H' → c.Ok h' →
  (∀ (i : Nat) (v : MV), c.its[i]? = some v → J.go i H' ∧ ∀ x H'', J.yld i H' x H'' → ∃ W'', Ex W' H' W'' H'' ∧ Hr K mg W'' h' H'' ∧ VR K mg W''.F W''.ρ v x) ∧ J.stop c.its.length H'
theorem PIi {X : Cx} {tg e : Expr} {t t' : TI} (h : PI X tg e t) (k : ∀ σ H R, t' σ H R → t σ H R) : PI X tg e t' := ⟨fun pins s σ H R I a => h.run pins s σ H R I (k σ H R a)⟩
theorem PIor {X : Cx} {tg e : Expr} {t t' : TI} (h : PI X tg e t) (h' : PI X tg e t') : PI X tg e (fun σ H R => t σ H R ∨ t' σ H R) := ⟨fun pins s σ H R I a => by
  rcases a with a | a
  · exact h.run pins s σ H R I a
  · exact h'.run pins s σ H R I a⟩
section
variable {K : PySem.W.Frag} {mg : Str → Option Value} {W : Wd}
theorem ri_list {a : Addr} {xs : List MV} {ys : List V} (h : SqL K W.F a ys) (r : VRs K mg W.F W.ρ xs ys) : relI K mg W ⟨xs, none⟩ (Itl K a) := by
  intro W' H' h' le hr ok
  have r' := r.le le
  have s' : SqL K H' a ys := hr.sql (sql_le le.fz h)
  refine ⟨fun i v e => ?_, ys, s', by rw [← r.length]; exact Nat.le_refl _⟩
  obtain ⟨x, e1, vr⟩ := r'.get e
  refine ⟨⟨ys, x, s', e1⟩, ?_⟩
  rintro y H'' ⟨rfl, e2⟩
  have e3 := e2 ys s'
  rw [e1] at e3
  cases e3
  exact ⟨W', Ex.refl _ _, hr, vr⟩
theorem ri_tup {a : Addr} {xs : List MV} {ys : List V} (h : SqT K W.F a ys) (r : VRs K mg W.F W.ρ xs ys) : relI K mg W ⟨xs, none⟩ (Itt K a) := by
  intro W' H' h' le hr ok
  have r' := r.le le
  have s' : SqT K H' a ys := hr.sqt (sqt_le le.fz h)
  refine ⟨fun i v e => ?_, ys, s', by rw [← r.length]; exact Nat.le_refl _⟩
  obtain ⟨x, e1, vr⟩ := r'.get e
  refine ⟨⟨ys, x, s', e1⟩, ?_⟩
  rintro y H'' ⟨rfl, e2⟩
  have e3 := e2 ys s'
  rw [e1] at e3
  cases e3
  exact ⟨W', Ex.refl _ _, hr, vr⟩
theorem ref_lst {W : Wd} {h : MH} {H : Hp} (hr : Hr K mg W h H) {n : Nat} {a : Addr} {xs : List MV} (p : W.ρ[n]? = some a) (e : h[n]? = some (.lst xs)) : ∃ ys, H a = some (.lst ys) ∧ VRs K mg W.F W.ρ xs ys := by
  obtain ⟨a', u, e1, e2, e3⟩ := hr.at e
  rw [p] at e1
  cases e1
  cases e3 with
  | lst e3 => exact ⟨_, e2, e3⟩
theorem ri_ref {a : Addr} {n : Nat} {xs : List MV} (p : W.ρ[n]? = some a) : relI K mg W ⟨xs, some n⟩ (Itl K a) := by
  intro W' H' h' le hr ok
  obtain ⟨ys, z1, z2⟩ := ref_lst hr (pre_get le.pre p) ok
  have s' : SqL K H' a ys := sl_of z1
  refine ⟨fun i v e => ?_, ys, s', by rw [← z2.length]; exact Nat.le_refl _⟩
  obtain ⟨x, e1, vr⟩ := z2.get e
  refine ⟨⟨ys, x, s', e1⟩, ?_⟩
  rintro y H'' ⟨rfl, e2⟩
  have e3 := e2 ys s'
  rw [e1] at e3
  cases e3
  exact ⟨W', Ex.refl _ _, hr, vr⟩
/-- the signs of a text -/
def signs (x : Str) : List MV := x.cps.toList.map fun c => .str ⟨#[c]⟩
theorem ri_str (x : Str) : relI K mg W ⟨signs x, none⟩ (Its x) := by
  intro W' H' h' le hr ok
  have hl : (signs x).length = x.cps.size := by simp [signs]
  refine ⟨fun i v e => ?_, ?_⟩
  · have hi := (List.getElem?_eq_some_iff.mp e).1
    refine ⟨?_, ?_⟩
    · show i < x.cps.size
      simpa [signs] using hi
    · rintro y H'' ⟨rfl, c, e1, rfl⟩
      have e : (signs x)[i]? = some v := e
      unfold signs at e
      rw [List.getElem?_map, Array.getElem?_toList, e1] at e
      cases e
      exact ⟨W', Ex.refl _ _, hr, .str _⟩
  · show x.cps.size ≤ (signs x).length
    omega
def rangeM (lo : Int) (n : Nat) : List MV := (List.range n).map fun (i : Nat) => .int (lo + (i : Int))
theorem ri_rng (lo : Int) (n : Nat) : relI K mg W ⟨rangeM lo n, none⟩ (Itr lo n) := by
  intro W' H' h' le hr ok
  have hl : (rangeM lo n).length = n := by simp [rangeM]
  refine ⟨fun i v e => ?_, ?_⟩
  · have hi := (List.getElem?_eq_some_iff.mp e).1
    have hi : i < n := by simpa [rangeM] using hi
    refine ⟨hi, ?_⟩
    rintro y H'' ⟨rfl, rfl⟩
    have e : (rangeM lo n)[i]? = some v := e
    unfold rangeM at e
    rw [List.getElem?_map, List.getElem?_range hi] at e
    cases e
    exact ⟨W', Ex.refl _ _, hr, .int _⟩
  · show n ≤ (rangeM lo n).length
    omega
def enumM (xs : List MV) (k : Nat := 0) : List MV := match xs with
  | [] => []
  | v :: r => .tup [.int k, v] :: enumM r (k + 1)
theorem enum_len : ∀ (xs : List MV) (k : Nat), (enumM xs k).length = xs.length
  | [], _ => rfl
  | _ :: r, k => congrArg (· + 1) (enum_len r (k + 1))
theorem enum_get : ∀ {xs : List MV} {k i : Nat} {v : MV}, (enumM xs k)[i]? = some v → ∃ u, xs[i]? = some u ∧ v = .tup [.int ((k + i : Nat) : Int), u]
  | [], _, _, _, e => by cases e
  | u :: r, k, 0, v, e => by
    cases e
    exact ⟨u, rfl, rfl⟩
  | u :: r, k, i + 1, v, e => by
    obtain ⟨w, h1, h2⟩ := enum_get (xs := r) (k := k + 1) (i := i) (v := v) e
    refine ⟨w, h1, ?_⟩
    rw [h2]
    congr 4
    omega
theorem tup_new {W : Wd} {h : MH} {H : Hp} (hr : Hr K mg W h H) {vs : List MV} {xs : List V} (r : VRs K mg W.F W.ρ vs xs) {T : Addr} (e : H T = none) : ∃ W'', Ex W H W'' (upd H T (.tup xs)) ∧ Hr K mg W'' h (upd H T (.tup xs)) ∧ VR K mg W''.F W''.ρ (.tup vs) (.ref T) := by
  obtain ⟨h1, h2⟩ := hr.newF (u := .tup xs) e
  exact ⟨_, h2, h1, .tup (st_of upd_same) (r.to h2)⟩
theorem ri_enum {a : Addr} {xs : List MV} {ys : List V} (h : SqL K W.F a ys) (r : VRs K mg W.F W.ρ xs ys) : relI K mg W ⟨enumM xs, none⟩ (Ite K a) := by
  intro W' H' h' le hr ok
  have r' := r.le le
  have s' : SqL K H' a ys := hr.sql (sql_le le.fz h)
  refine ⟨fun i v e => ?_, ys, s', by show ys.length ≤ (enumM xs).length; rw [enum_len, ← r.length]; exact Nat.le_refl _⟩
  obtain ⟨u, e1, rfl⟩ := enum_get e
  obtain ⟨x, e2, vr⟩ := r'.get e1
  refine ⟨⟨ys, x, s', e2⟩, ?_⟩
  rintro y H'' ⟨T, z, rfl, hT, rfl, e3⟩
  have e3 := e3 ys s'
  rw [e2] at e3
  cases e3
  rw [Nat.zero_add]
  exact tup_new hr (.cons (.int _) (.cons vr .nil)) hT
theorem ri_enumR {a : Addr} {n : Nat} {xs : List MV} (p : W.ρ[n]? = some a) (Pn : True) : ∀ W' H' h', W.le W' → Hr K mg W' h' H' → h'[n]? = some (.lst xs) →
  (∀ (i : Nat) (v : MV), (enumM xs)[i]? = some v → (Ite K a).go i H' ∧ ∀ x H'', (Ite K a).yld i H' x H'' → ∃ W'', Ex W' H' W'' H'' ∧ Hr K mg W'' h' H'' ∧ VR K mg W''.F W''.ρ v x) ∧ (Ite K a).stop (enumM xs).length H' := by
  intro W' H' h' le hr ok
  obtain ⟨ys, z1, z2⟩ := ref_lst hr (pre_get le.pre p) ok
  have s' : SqL K H' a ys := sl_of z1
  refine ⟨fun i v e => ?_, ys, s', by show ys.length ≤ (enumM xs).length; rw [enum_len, ← z2.length]; exact Nat.le_refl _⟩
  obtain ⟨u, e1, rfl⟩ := enum_get e
  obtain ⟨x, e2, vr⟩ := z2.get e1
  refine ⟨⟨ys, x, s', e2⟩, ?_⟩
  rintro y H'' ⟨T, z, rfl, hT, rfl, e3⟩
  have e3 := e3 ys s'
  rw [e2] at e3
  cases e3
  rw [Nat.zero_add]
  exact tup_new hr (.cons (.int _) (.cons vr .nil)) hT
theorem ri_enumT {a : Addr} {xs : List MV} {ys : List V} (h : SqT K W.F a ys) (r : VRs K mg W.F W.ρ xs ys) : relI K mg W ⟨enumM xs, none⟩ (IteT K a) := by
  intro W' H' h' le hr ok
  have r' := r.le le
  have s' : SqT K H' a ys := hr.sqt (sqt_le le.fz h)
  refine ⟨fun i v e => ?_, ys, s', by show ys.length = (enumM xs).length; rw [enum_len, ← r.length]⟩
  obtain ⟨u, e1, rfl⟩ := enum_get e
  obtain ⟨x, e2, vr⟩ := r'.get e1
  refine ⟨⟨ys, x, s', e2⟩, ?_⟩
  rintro y H'' ⟨T, z, rfl, hT, rfl, e3⟩
  have e3 := e3 ys s'
  rw [e2] at e3
  cases e3
  rw [Nat.zero_add]
  exact tup_new hr (.cons (.int _) (.cons vr .nil)) hT
end
section
variable {X : Cx} {mg : Str → Option Value} {ei : EI} {Wx : WX} {a b o tg : Expr} {es : List Expr} {pos p apos : Pos} {ma mb mc mo : ME} {mas : MA} {x : Str} {st : Stmt} {sts : List Stmt} {m m1 m2 : MS} {mt : MT}
def srcOf (h : MH) : MV → Option Src
  | .str x => some ⟨signs x, none⟩
  | .tup xs => some ⟨xs, none⟩
  | .lst xs => some ⟨xs, none⟩
  | .scr xs => some ⟨xs, none⟩
  | .ref n => match h[n]? with
    | some (.lst xs) => some ⟨xs, some n⟩
    | _ => none
  | _ => none
def opR {α : Type} (o : Option α) (h : MH) : R α := match o with
  | some a => .ok a h
  | none => .bad
@[simp] theorem opR_some {α : Type} (a : α) (h : MH) : opR (some a) h = .ok a h := rfl
@[simp] theorem opR_none {α : Type} (h : MH) : opR (none : Option α) h = .bad := rfl
/-- for .. in e -/
def mIt (m : ME) : MI := fun s h => (m s h).bind fun v h1 => opR (srcOf h1 v) h1
theorem m_it (ha : PE X a (tE X.K mg ei Wx ma)) : PI X tg a (tG X.K mg ei Wx (relI X.K mg) (mIt ma)) := by
  refine PIi (PIor (pi_str ha) (PIor (pi_tup ha) (pi_list ha))) fun σ H R t => ?_
  obtain ⟨W, s, h, hr, sr, t⟩ := t
  unfold mIt at t
  cases e : ma s h with
  | exc c fs h1 =>
    rw [e] at t
    refine .inl ⟨W, s, h, hr, sr, ?_⟩
    rw [e]
    exact t
  | bad =>
    rw [e] at t
    exact t.elim
  | ok v h1 =>
    rw [e, bind_ok] at t
    cases v with
    | str z =>
      refine .inl ⟨W, s, h, hr, sr, ?_⟩
      rw [e]
      intro W1 H1 x e1 hr1 vr
      cases vr
      exact ⟨z, rfl, t W1 H1 _ e1 hr1 (ri_str z)⟩
    | tup xs =>
      refine .inr (.inl ⟨W, s, h, hr, sr, ?_⟩)
      rw [e]
      intro W1 H1 x e1 hr1 vr
      cases vr with
      | tup s1 r1 => exact ⟨_, rfl, ⟨_, hr1.sqt s1⟩, t W1 H1 _ e1 hr1 (ri_tup s1 r1)⟩
    | lst xs =>
      refine .inr (.inr ⟨W, s, h, hr, sr, ?_⟩)
      rw [e]
      intro W1 H1 x e1 hr1 vr
      cases vr with
      | lst s1 r1 => exact ⟨_, rfl, ⟨_, sl_of (hr1.fz _ _ s1)⟩, t W1 H1 _ e1 hr1 (ri_list (sl_of s1) r1)⟩
    | scr xs =>
      refine .inr (.inr ⟨W, s, h, hr, sr, ?_⟩)
      rw [e]
      intro W1 H1 x e1 hr1 vr
      cases vr with
      | scr s1 r1 => exact ⟨_, rfl, ⟨_, hr1.sql s1⟩, t W1 H1 _ e1 hr1 (ri_list s1 r1)⟩
    | ref n =>
      refine .inr (.inr ⟨W, s, h, hr, sr, ?_⟩)
      rw [e]
      intro W1 H1 x e1 hr1 vr
      cases vr with
      | ref s1 =>
        simp only [srcOf] at t
        split at t
        · rename_i xs hx
          obtain ⟨ys, z1, z2⟩ := ref_lst hr1 s1 hx
          exact ⟨_, rfl, ⟨_, sl_of z1⟩, t W1 H1 _ e1 hr1 (ri_ref s1)⟩
        · exact t.elim
    | _ => exact t.elim
/-- for i, x in enumerate(e) -/
def mEn (m : MA) : MI := fun s h => (m s h).bind fun vs h1 => match vs with
  | [v] => match v with
    | .tup xs => .ok ⟨enumM xs, none⟩ h1
    | .lst xs => .ok ⟨enumM xs, none⟩ h1
    | .scr xs => .ok ⟨enumM xs, none⟩ h1
    | _ => .bad
  | _ => .bad
theorem m_en {tpos : Pos} {kk : Nat} (hg : Gl X "enumerate") (hm : X.mg "enumerate" = none) (ha : PA X [a] (tA X.K mg ei Wx mas)) (hs : starEach [a] X.env = [(false, eval a X.env)] := by rfl) :
    PI X (.Tuple es kk tpos) (.Call (.Name "enumerate" p) [a] [] pos) (tG X.K mg ei Wx (relI X.K mg) (mEn mas)) := by
  refine PIi (PIor (pi_enumT hg hm ha hs) (pi_enum hg hm ha hs)) fun σ H R t => ?_
  obtain ⟨W, s, h, hr, sr, t⟩ := t
  unfold mEn at t
  cases e : mas s h with
  | exc c fs h1 =>
    rw [e] at t
    refine .inl ⟨W, s, h, hr, sr, ?_⟩
    rw [e]
    exact t
  | bad =>
    rw [e] at t
    exact t.elim
  | ok vs h1 =>
    rw [e, bind_ok] at t
    match vs, e, t with
    | [], _, t => exact t.elim
    | [v], e, t =>
      cases v with
      | tup xs =>
        refine .inl ⟨W, s, h, hr, sr, ?_⟩
        rw [e]
        intro W1 H1 x e1 hr1 vr
        obtain ⟨y, rfl, vs1⟩ := vrs1 vr
        cases vs1 with
        | tup s1 r1 => exact ⟨_, _, rfl, hr1.sqt s1, t W1 H1 _ e1 hr1 (ri_enumT s1 r1)⟩
      | lst xs =>
        refine .inr ⟨W, s, h, hr, sr, ?_⟩
        rw [e]
        intro W1 H1 x e1 hr1 vr
        obtain ⟨y, rfl, vs1⟩ := vrs1 vr
        cases vs1 with
        | lst s1 r1 => exact ⟨_, _, rfl, sl_of (hr1.fz _ _ s1), t W1 H1 _ e1 hr1 (ri_enum (sl_of s1) r1)⟩
      | scr xs =>
        refine .inr ⟨W, s, h, hr, sr, ?_⟩
        rw [e]
        intro W1 H1 x e1 hr1 vr
        obtain ⟨y, rfl, vs1⟩ := vrs1 vr
        cases vs1 with
        | scr s1 r1 => exact ⟨_, _, rfl, hr1.sql s1, t W1 H1 _ e1 hr1 (ri_enum s1 r1)⟩
      | _ => exact t.elim
    | _ :: _ :: _, _, t => exact t.elim
/-- range(n), range(i, j) -/
def mR1 (m : MA) : MI := fun s h => (m s h).bind fun vs h1 => match vs with
  | [v] => match v with
    | .int j => if -(2 ^ 62) ≤ j ∧ j < 2 ^ 62 then .ok ⟨rangeM 0 j.toNat, none⟩ h1 else .bad
    | _ => .bad
  | _ => .bad
theorem m_r1 (hg : Gl X "range") (hm : X.mg "range" = none) (ha : PA X [a] (tA X.K mg ei Wx mas)) (hs : starEach [a] X.env = [(false, eval a X.env)] := by rfl) : PI X tg (.Call (.Name "range" p) [a] [] pos) (tG X.K mg ei Wx (relI X.K mg) (mR1 mas)) := by
  refine PIi (pi_range1 hg hm ha hs) fun σ H R t => ?_
  obtain ⟨W, s, h, hr, sr, t⟩ := t
  refine (tG_bind (rel1 := relVs X.K mg) hr sr t).post ?_
  rintro xs H1 ⟨W1, vs, h1, e1, hr1, sr1, vr, t1⟩
  match vs, vr, t1 with
  | [], _, t1 => exact t1.elim
  | [v], vr, t1 =>
    obtain ⟨y, rfl, vs1⟩ := vrs1 vr
    cases vs1 with
    | int j =>
      simp only at t1
      split at t1
      · rename_i hc
        exact ⟨j, rfl, hc.1, hc.2, t1 W1 H1 _ (Ex.refl _ _) hr1 (ri_rng 0 _)⟩
      · exact t1.elim
    | _ => exact t1.elim
  | _ :: _ :: _, _, t1 => exact t1.elim
def mR2 (m : MA) : MI := fun s h => (m s h).bind fun vs h1 => match vs with
  | [v, w] => match v with
    | .int i => match w with
      | .int j => if -(2 ^ 62) ≤ i ∧ i < 2 ^ 62 ∧ -(2 ^ 62) ≤ j ∧ j < 2 ^ 62 then .ok ⟨rangeM i (j - i).toNat, none⟩ h1 else .bad
      | _ => .bad
    | _ => .bad
  | _ => .bad
theorem m_r2 (hg : Gl X "range") (hm : X.mg "range" = none) (ha : PA X [a, b] (tA X.K mg ei Wx mas)) (hs : starEach [a, b] X.env = [(false, eval a X.env), (false, eval b X.env)] := by rfl) (hs2 : starEach [b] X.env = [(false, eval b X.env)] := by rfl) :
    PI X tg (.Call (.Name "range" p) [a, b] [] pos) (tG X.K mg ei Wx (relI X.K mg) (mR2 mas)) := by
  refine PIi (pi_range2 hg hm ha hs hs2) fun σ H R t => ?_
  obtain ⟨W, s, h, hr, sr, t⟩ := t
  refine (tG_bind (rel1 := relVs X.K mg) hr sr t).post ?_
  rintro xs H1 ⟨W1, vs, h1, e1, hr1, sr1, vr, t1⟩
  match vs, vr, t1 with
  | [], _, t1 => exact t1.elim
  | [_], _, t1 => exact t1.elim
  | [v, w], vr, t1 =>
    obtain ⟨y, z, rfl, vs1, wr⟩ := vrs2 vr
    cases vs1 with
    | int i =>
      cases wr with
      | int j =>
        simp only at t1
        split at t1
        · rename_i hc
          exact ⟨i, j, rfl, hc, t1 W1 H1 _ (Ex.refl _ _) hr1 (ri_rng i _)⟩
        · exact t1.elim
      | _ => exact t1.elim
    | _ => exact t1.elim
  | _ :: _ :: _ :: _, _, t1 => exact t1.elim
/-! ### for -/
def afterB (r : RS) (k : Sm → MH → RS) : RS := match r with
  | .ok f s h => match f with
    | .nx => k s h
    | .ct => k s h
    | .bk => .ok .nx s h
    | .rt v => .ok (.rt v) s h
  | r => r
@[simp] theorem afterB_nx (s : Sm) (h : MH) (k : Sm → MH → RS) : afterB (.ok .nx s h) k = k s h := rfl
@[simp] theorem afterB_ct (s : Sm) (h : MH) (k : Sm → MH → RS) : afterB (.ok .ct s h) k = k s h := rfl
@[simp] theorem afterB_bk (s : Sm) (h : MH) (k : Sm → MH → RS) : afterB (.ok .bk s h) k = .ok .nx s h := rfl
@[simp] theorem afterB_rt (v : MV) (s : Sm) (h : MH) (k : Sm → MH → RS) : afterB (.ok (.rt v) s h) k = .ok (.rt v) s h := rfl
@[simp] theorem afterB_exc (c : Str) (fs : Fs) (s : Sm) (h : MH) (k : Sm → MH → RS) : afterB (.exc c fs s h) k = .exc c fs s h := rfl
@[simp] theorem afterB_bad (k : Sm → MH → RS) : afterB .bad k = .bad := rfl
noncomputable def runF (c : Src) (g : MG) (body : MS) : List MV → Sm → MH → RS
  | [], s, h => if c.Ok h then .ok .nx s h else .bad
  | v :: vs, s, h => if c.Ok h then lift (g v s h) s fun s1 h1 => afterB (body s1 h1) fun s2 h2 => runF c g body vs s2 h2 else .bad
noncomputable def mFor (mi : MI) (g : MG) (body : MS) : MS := fun s h => lift (mi s h) s fun c h1 => runF c g body c.its s h1
variable {mi : MI} {g : MG} {body : List Stmt} {iter : Expr}
theorem m_for {js : List Nat} (hi : PI X tg iter (tG X.K mg ei Wx (relI X.K mg) mi)) (hg : PG X tg (tGt X.K mg ei Wx js g)) (hb : PSs X body (tS X.K mg ei Wx m)) (q : ∀ {wi : TI} {g : TG} {tb : TS}, PI X tg iter wi → PG X tg g → PSs X body tb → PS X st (tFor wi g tb)) :
    PS X st (tS X.K mg ei Wx (mFor mi g m)) := by
  refine PSi (q hi hg hb) fun D σ H t => ?_
  obtain ⟨W, s, h, hr, sr, t⟩ := t
  refine (tG_lift (rel1 := relI X.K mg) hr sr t).post ?_
  rintro J H1 ⟨W1, c, h1, e1, hr1, sr1, ri, t1⟩
  refine ⟨fun i n σ' H' => i + n = c.its.length ∧ ∃ W' s' h', W1.le W' ∧ Hr X.K mg W' h' H' ∧ Sr X.K mg ei W' s' σ' ∧ AfS X.K mg ei Wx W' H' D (runF c g m (c.its.drop i) s' h'), ⟨c.its.length, by omega, W1, s, h1, Wd.le.refl _, hr1, sr1, t1⟩, ?_⟩
  rintro i n σ' H' ⟨hn, W', s', h', le, hr', sr', t'⟩
  cases n with
  | zero =>
    obtain rfl : i = c.its.length := by omega
    rw [List.drop_length] at t'
    unfold runF at t'
    split at t'
    · rename_i ok
      exact .inl ⟨(ri W' H' h' le hr' ok).2, t' W' σ' H' (Ex.refl _ _) hr' sr'⟩
    · exact t'.elim
  | succ n =>
    have hi : i < c.its.length := by omega
    rw [List.drop_eq_getElem_cons hi] at t'
    unfold runF at t'
    split at t'
    · rename_i ok
      obtain ⟨go, yl⟩ := (ri W' H' h' le hr' ok).1 i _ (List.getElem?_eq_getElem hi)
      refine .inr ⟨go, fun σ2 H2 => ∃ W2 s2 h2, W1.le W2 ∧ Hr X.K mg W2 h2 H2 ∧ Sr X.K mg ei W2 s2 σ2 ∧ AfS X.K mg ei Wx W2 H2 D (runF c g m (c.its.drop (i + 1)) s2 h2), fun σ2 H2 z => ⟨n, by omega, by omega, z⟩, fun x H2 y => ?_⟩
      obtain ⟨W2, e2, hr2, vr⟩ := yl x H2 y
      refine ⟨W2, s', h', _, hr2, sr'.to e2, vr, ?_⟩
      have t2 := t'.mono e2
      cases e : g c.its[i] s' h' with
      | ok s3 h3 =>
        rw [e, lift_ok] at t2
        intro W3 H3 σ3 e3 hr3 sr3 _
        refine ⟨W3, s3, h3, hr3, sr3, ?_⟩
        have t3 := t2.mono e3
        cases eb : m s3 h3 with
        | ok f s4 h4 =>
          rw [eb] at t3
          intro W4 σ4 H4 e4 hr4 sr4
          have t4 := t3.mono e4
          cases f with
          | nx => exact ⟨W4, s4, h4, ((le.trans e2.le).trans e3.le).trans e4.le, hr4, sr4, t4⟩
          | ct => exact ⟨W4, s4, h4, ((le.trans e2.le).trans e3.le).trans e4.le, hr4, sr4, t4⟩
          | bk => exact t4 W4 σ4 H4 (Ex.refl _ _) hr4 sr4
          | rt v => exact t4 W4 σ4 H4 (Ex.refl _ _) hr4 sr4
        | exc c' fs s4 h4 =>
          rw [eb] at t3
          exact t3
        | bad =>
          rw [eb] at t3
          exact t3
      | exc c' fs h3 =>
        rw [e, lift_exc] at t2
        exact fun W3 H3 C d gs e3 hr3 z1 z2 z3 => t2 W3 σ' H3 C d gs e3 hr3 ((sr'.to e2).to e3) z1 z2 z3
      | bad =>
        rw [e, lift_bad] at t2
        exact t2
    · exact t'.elim
/-! ### while -/
def runW (mt : MT) (body : MS) : Nat → Sm → MH → RS
  | 0, _, _ => .bad
  | n + 1, s, h => lift (mt s h) s fun b h1 => if b = true then afterB (body s h1) fun s2 h2 => runW mt body n s2 h2 else .ok .nx s h1
open Classical in
noncomputable def mWhile (mt : MT) (body : MS) : MS := fun s h => if e : ∃ n, runW mt body n s h ≠ .bad then runW mt body e.choose s h else .bad
theorem runW_mono (mt : MT) (body : MS) : ∀ (n k : Nat) (s : Sm) (h : MH), runW mt body n s h ≠ .bad → runW mt body (n + k) s h = runW mt body n s h
  | 0, _, _, _, e => absurd rfl e
  | n + 1, k, s, h, e => by
    rw [Nat.succ_add]
    unfold runW at e ⊢
    cases q : mt s h with
    | exc c fs h1 => rfl
    | bad => rfl
    | ok b h1 =>
      rw [q] at e
      simp only [lift_ok] at e ⊢
      cases b with
      | false => rfl
      | true =>
        simp only [if_true] at e ⊢
        cases z : body s h1 with
        | exc c fs s2 h2 => rfl
        | bad => rfl
        | ok f s2 h2 =>
          rw [z] at e
          cases f with
          | nx => exact runW_mono mt body n k s2 h2 e
          | ct => exact runW_mono mt body n k s2 h2 e
          | bk => rfl
          | rt v => rfl
theorem while_is {body : MS} {n : Nat} {s : Sm} {h : MH} {r : RS} (e : runW mt body n s h = r) (hr : r ≠ .bad) : mWhile mt body s h = r := by
  have ex : ∃ n, runW mt body n s h ≠ .bad := ⟨n, by rw [e]; exact hr⟩
  unfold mWhile
  rw [dif_pos ex]
  have h1 := ex.choose_spec
  have h2 := runW_mono mt body ex.choose n s h h1
  have h3 := runW_mono mt body n ex.choose s h (by rw [e]; exact hr)
  rw [Nat.add_comm] at h3
  rw [← h2, h3, e]
theorem m_while {c : Expr} (hc : PT X c (tT X.K mg ei Wx mt)) (hb : PSs X body (tS X.K mg ei Wx m)) (q : ∀ {tc : TT} {tb : TS}, PT X c tc → PSs X body tb → PS X st (tWhile tc tb)) : PS X st (tS X.K mg ei Wx (mWhile mt m)) := by
  refine PSi (q hc hb) fun D σ H t => ?_
  obtain ⟨W, s, h, hr, sr, t⟩ := t
  unfold mWhile at t
  split at t
  · rename_i ex
    refine ⟨fun n σ' H' => ∃ W' s' h', Hr X.K mg W' h' H' ∧ Sr X.K mg ei W' s' σ' ∧ AfS X.K mg ei Wx W' H' D (runW mt m n s' h'), ⟨ex.choose, W, s, h, hr, sr, t⟩, ?_⟩
    rintro n σ' H' ⟨W', s', h', hr', sr', t'⟩
    cases n with
    | zero => exact t'.elim
    | succ n =>
      unfold runW at t'
      refine (tG_lift (rel1 := relB) hr' sr' t').post ?_
      rintro b H1 ⟨W1, b', h1, e1, hr1, sr1, rfl, t1⟩
      cases b' with
      | false => exact t1 W1 σ' H1 (Ex.refl _ _) hr1 sr1
      | true =>
        rw [if_pos rfl] at t1 ⊢
        refine ⟨fun σ2 H2 => ∃ W2 s2 h2, Hr X.K mg W2 h2 H2 ∧ Sr X.K mg ei W2 s2 σ2 ∧ AfS X.K mg ei Wx W2 H2 D (runW mt m n s2 h2), fun σ2 H2 z => ⟨n, Nat.lt_succ_self n, z⟩, W1, s', h1, hr1, sr1, ?_⟩
        cases eb : m s' h1 with
        | ok f s4 h4 =>
          rw [eb] at t1
          intro W4 σ4 H4 e4 hr4 sr4
          have t4 := t1.mono e4
          cases f with
          | nx => exact ⟨W4, s4, h4, hr4, sr4, t4⟩
          | ct => exact ⟨W4, s4, h4, hr4, sr4, t4⟩
          | bk => exact t4 W4 σ4 H4 (Ex.refl _ _) hr4 sr4
          | rt v => exact t4 W4 σ4 H4 (Ex.refl _ _) hr4 sr4
        | exc c' fs s4 h4 =>
          rw [eb] at t1
          exact t1
        | bad =>
          rw [eb] at t1
          exact t1
  · exact t.elim
end
end M
set_option Elab.async false
set_option linter.all false
set_option maxRecDepth 100000
set_option maxHeartbeats 4000000
namespace M
open PySem PySem.Spec L2 G
/-! ### comprehensions -/
theorem wipe_get (σ : L2.St) : ∀ (vs : List Nat) (i : Nat), (wipe σ vs)[i]? = if i ∈ vs then (if i < σ.length then some none else none) else σ[i]?
  | [], i => by simp [wipe]
  | v :: vs, i => by
    show ((wipe σ vs).set v none)[i]? = _
    by_cases h : v = i
    · subst h
      rw [List.getElem?_set_self', if_pos List.mem_cons_self]
      by_cases hl : v < σ.length
      · rw [if_pos hl, List.getElem?_eq_getElem (by rw [wipe_length]; exact hl)]
        rfl
      · rw [if_neg hl, List.getElem?_eq_none (by rw [wipe_length]; omega)]
        rfl
    · rw [List.getElem?_set_ne h, wipe_get σ vs i]
      have : (i ∈ v :: vs) ↔ i ∈ vs := by simp [Ne.symm h]
      simp only [this]
theorem wipe_off {js vs : List Nat} (hj : ∀ i ∈ js, i ∈ vs) {σ σ2 : L2.St} (o : Off js (wipe σ vs) σ2) : wipe σ2 vs = wipe σ vs := by
  apply List.ext_getElem?
  intro i
  have hl : σ2.length = σ.length := by rw [o.len, wipe_length]
  rw [wipe_get, wipe_get, hl]
  by_cases h : i ∈ vs
  · rw [if_pos h, if_pos h]
  · rw [if_neg h, if_neg h, o.at_ i (fun z => h (hj i z)), wipe_get, if_neg h]
def wipeM (s : Sm) : List Nat → Sm
  | [] => s
  | v :: vs => (wipeM s vs).set v .non
theorem Sr.wipe {K : PySem.W.Frag} {mg : Str → Option Value} {ei : EI} {W : Wd} {s : Sm} {σ : L2.St} (r : Sr K mg ei W s σ) : ∀ vs : List Nat, Sr K mg ei W (wipeM s vs) (L2.wipe σ vs)
  | [] => r
  | v :: vs => (Sr.wipe r vs).set (a := .non) (x := none) trivial
section
variable {K : PySem.W.Frag} {mg : Str → Option Value} {W : Wd} {h : MH} {H : Hp}
theorem Hr.off (r : Hr K mg W h H) {p : Addr} {u : HO} (h1 : p ∉ W.ρ) (h2 : W.F p = none) : Hr K mg W h (upd H p u) := by
  refine ⟨r.nd, r.len, fun a o e => ?_, r.nf, fun n a o e1 e2 => ?_⟩
  · rw [upd_ne]
    · exact r.fz a o e
    · rintro rfl
      rw [h2] at e
      cases e
  · obtain ⟨v, e3, e4⟩ := r.ob n a o e1 e2
    refine ⟨v, ?_, e4⟩
    rw [upd_ne]
    · exact e3
    · rintro rfl
      exact h1 (List.mem_of_getElem? e1)
theorem Ex.off {W' : Wd} {H' : Hp} (e : Ex W H W' H') {p : Addr} {u : HO} (hp : H p = none) : Ex W H W' (upd H' p u) := ⟨e.le, fun a o h1 h2 h3 => by
  obtain ⟨q1, q2, q3⟩ := e.out a o h1 h2 h3
  refine ⟨?_, q2, q3⟩
  rw [upd_ne (ne_of_none h1 hp)]
  exact q1⟩
end
noncomputable def runL (c : Src) (g : MG) (tt : MT) (te : ME) : List MV → List MV → Sm → MH → R (List MV)
  | [], acc, _, h => if c.Ok h then .ok acc h else .bad
  | v :: r, acc, s, h => if c.Ok h then (noX (g v s h)).bind fun s1 h1 => (noX (tt s1 h1)).bind fun b h2 => if b = true then (noX (te s1 h2)).bind fun u h3 => if acc.length < 1000000 then runL c g tt te r (acc ++ [u]) s h3 else .bad else runL c g tt te r acc s h2 else .bad
noncomputable def mLc (md : Bool) (mi : MI) (g : MG) (tt : MT) (te : ME) (vs : List Nat) : ME := fun s h => (mi s h).bind fun c h1 => (runL c g tt te c.its [] (wipeM s vs) h1).bind (newL md)
def mYes : MT := fun _ h => .ok true h
section
variable {X : Cx} {mg : Str → Option Value} {ei : EI} {Wx : WX} {a b o tg iter : Expr} {es : List Expr} {pos p apos : Pos} {ma mb mc mo : ME} {mas : MA} {x : Str} {st : Stmt} {sts : List Stmt} {m m1 m2 : MS} {mt : MT} {mi : MI} {g : MG}
theorem t_lc {md : Bool} {vs js : List Nat} (hj : ∀ i ∈ js, i ∈ vs) {σ : L2.St} {H : Hp} {Q : VK} (t : tE X.K mg ei Wx (mLc md mi g mt ma vs) σ H Q) : tLc (tG X.K mg ei Wx (relI X.K mg) mi) (tGt X.K mg ei WN js g) (tT X.K mg ei WN mt) (tE X.K mg ei WN ma) vs σ H Q := by
  obtain ⟨W, s, h, hr, sr, t⟩ := t
  refine (tG_bind (rel1 := relI X.K mg) hr sr t).post ?_
  rintro J H1 ⟨W1, c, h1, e1, hr1, sr1, ri, t1⟩ D hD
  obtain ⟨d1, d2⟩ := hr1.fresh hD
  refine ⟨fun i n H' => i + n = c.its.length ∧ ∃ W' h' acc ys, Ex W1 H1 W' H' ∧ Hr X.K mg W' h' H' ∧ H' D = some (.lst ys) ∧ D ∉ W'.ρ ∧ W'.F D = none ∧ VRs X.K mg W'.F W'.ρ acc ys ∧ AfR X.K mg Wx (relV X.K mg) W1 σ H1 Q ((runL c g mt ma (c.its.drop i) acc (wipeM s vs) h').bind (newL md)),
    ⟨c.its.length, by omega, W1, h1, [], [], (Ex.refl W1 H1).off hD, hr1.off d1 d2, upd_same, d1, d2, .nil, t1⟩, ?_⟩
  rintro i n H' ⟨hn, W', h', acc, ys, ex, hr', hD', n1, n2, vr, t'⟩
  have srw : Sr X.K mg ei W' (wipeM s vs) (L2.wipe σ vs) := (sr1.to ex).wipe vs
  cases n with
  | zero =>
    obtain rfl : i = c.its.length := by omega
    rw [List.drop_length] at t'
    unfold runL at t'
    split at t'
    · rename_i ok
      refine .inl ⟨(ri W' H' h' ex.le hr' ok).2, ?_⟩
      rw [bind_ok] at t'
      unfold newL at t'
      split at t'
      · cases md with
        | true =>
          have q : (W'.ρ ++ [D])[h'.length]? = some D := by
            rw [← hr'.len, List.getElem?_append_right (Nat.le_refl _), Nat.sub_self]
            rfl
          have le : W'.le ⟨W'.ρ ++ [D], W'.F⟩ := ⟨List.prefix_append _ _, fun _ _ z => z⟩
          refine t' ⟨W'.ρ ++ [D], W'.F⟩ H' _ ⟨ex.le.trans le, fun a o z1 z2 z3 => ?_⟩ ⟨?_, ?_, hr'.fz, fun a m => ?_, fun k a o z1 z2 => ?_⟩ (.ref q)
          · obtain ⟨q1, q2, q3⟩ := ex.out a o z1 z2 z3
            refine ⟨q1, fun m => ?_, q3⟩
            rcases List.mem_append.mp m with m | m
            · exact q2 m
            · rw [List.mem_singleton] at m
              rw [m, hD] at z1
              cases z1
          · exact List.nodup_append.mpr ⟨hr'.nd, by simp, fun a ha b hb => by
              rw [List.mem_singleton] at hb
              rw [hb]
              exact fun z => n1 (z ▸ ha)⟩
          · show (W'.ρ ++ [D]).length = (h' ++ [MO.lst acc]).length
            rw [List.length_append, List.length_append, hr'.len]
            rfl
          · rcases List.mem_append.mp m with m | m
            · exact hr'.nf a m
            · rw [List.mem_singleton] at m
              rw [m]
              exact n2
          · have z1 : (W'.ρ ++ [D])[k]? = some a := z1
            by_cases hk : k < h'.length
            · rw [List.getElem?_append_left hk] at z2
              rw [List.getElem?_append_left (by rw [hr'.len]; exact hk)] at z1
              obtain ⟨v, q1, q2⟩ := hr'.ob k a o z1 z2
              exact ⟨v, q1, q2.le le⟩
            · have hl := (List.getElem?_eq_some_iff.mp z2).1
              rw [List.length_append] at hl
              have e1 : ([MO.lst acc] : List MO).length = 1 := rfl
              obtain rfl : k = h'.length := by omega
              rw [List.getElem?_append_right (Nat.le_refl _), Nat.sub_self] at z2
              rw [q] at z1
              cases z1
              cases z2
              exact ⟨_, hD', .lst (vr.le le)⟩
        | false =>
          have le : W'.le ⟨W'.ρ, upd W'.F D (.lst ys)⟩ := ⟨List.prefix_refl _, same_new n2⟩
          refine t' ⟨W'.ρ, upd W'.F D (.lst ys)⟩ H' _ ⟨ex.le.trans le, fun a o z1 z2 z3 => ?_⟩ ⟨hr'.nd, hr'.len, fun a o z => ?_, fun a m => ?_, fun k a o z1 z2 => ?_⟩ (.lst upd_same (vr.le le))
          · obtain ⟨q1, q2, q3⟩ := ex.out a o z1 z2 z3
            refine ⟨q1, q2, ?_⟩
            show upd W'.F D (.lst ys) a = none
            rw [upd_ne (ne_of_none z1 hD)]
            exact q3
          · have z : upd W'.F D (.lst ys) a = some o := z
            by_cases q : a = D
            · subst q
              rw [upd_same] at z
              cases z
              exact hD'
            · rw [upd_ne q] at z
              exact hr'.fz a o z
          · show upd W'.F D (.lst ys) a = none
            have z : a ≠ D := fun z => n1 (z ▸ m)
            rw [upd_ne z]
            exact hr'.nf a m
          · obtain ⟨v, q1, q2⟩ := hr'.ob k a o z1 z2
            exact ⟨v, q1, q2.le le⟩
      · exact t'.elim
    · exact t'.elim
  | succ n =>
    have hi : i < c.its.length := by omega
    rw [List.drop_eq_getElem_cons hi] at t'
    unfold runL at t'
    split at t'
    · rename_i ok
      obtain ⟨go, yl⟩ := (ri W' H' h' ex.le hr' ok).1 i _ (List.getElem?_eq_getElem hi)
      refine .inr ⟨go, fun H2 => ∃ W2 h2 acc ys, Ex W1 H1 W2 H2 ∧ Hr X.K mg W2 h2 H2 ∧ H2 D = some (.lst ys) ∧ D ∉ W2.ρ ∧ W2.F D = none ∧ VRs X.K mg W2.F W2.ρ acc ys ∧ AfR X.K mg Wx (relV X.K mg) W1 σ H1 Q ((runL c g mt ma (c.its.drop (i + 1)) acc (wipeM s vs) h2).bind (newL md)), fun H2 z => ⟨n, by omega, by omega, z⟩, fun y H2 yd => ?_⟩
      obtain ⟨W2, e2, hr2, vr2⟩ := yl y H2 yd
      refine ⟨W2, wipeM s vs, h', _, hr2, srw.to e2, vr2, ?_⟩
      cases eg : g c.its[i] (wipeM s vs) h' with
      | exc c' fs h3 => rw [eg] at t'; exact t'.elim
      | bad => rw [eg] at t'; exact t'.elim
      | ok s3 h3 =>
        rw [eg] at t'
        intro W3 H3 σ3 e3 hr3 sr3 of3
        refine ⟨wipe_off hj of3, W3, s3, h3, hr3, sr3, ?_⟩
        cases et : mt s3 h3 with
        | exc c' fs h4 =>
          simp only [noX, bind_ok, et] at t'
          exact t'.elim
        | bad =>
          simp only [noX, bind_ok, et] at t'
          exact t'.elim
        | ok b h4 =>
          simp only [noX, bind_ok, et] at t'
          intro W4 H4 b' e4 hr4 rb
          subst rb
          have o4 : H4 D = some (.lst ys) ∧ D ∉ W4.ρ ∧ W4.F D = none := by
            obtain ⟨p1, p2, p3⟩ := e2.out D _ hD' n1 n2
            obtain ⟨p4, p5, p6⟩ := e3.out D _ p1 p2 p3
            exact e4.out D _ p4 p5 p6
          cases b with
          | false => exact ⟨W4, h4, acc, ys, ((ex.trans e2).trans e3).trans e4, hr4, o4.1, o4.2.1, o4.2.2, ((vr.to e2).to e3).to e4, t'⟩
          | true =>
            simp only [if_true] at t' ⊢
            refine ⟨W4, s3, h4, hr4, sr3.to e4, ?_⟩
            cases ee : ma s3 h4 with
            | exc c' fs h5 =>
              simp only [ee, bind_bad] at t'
              exact t'.elim
            | bad =>
              simp only [ee, bind_bad] at t'
              exact t'.elim
            | ok u h5 =>
              simp only [ee, bind_ok] at t'
              intro W5 H5 y5 e5 hr5 ur
              obtain ⟨o1, o2, o3⟩ := e5.out D _ o4.1 o4.2.1 o4.2.2
              split at t'
              · rename_i hl
                have vr5 := (((vr.to e2).to e3).to e4).to e5
                refine ⟨ys, o1, by rw [← vr.length]; exact Nat.lt_of_lt_of_le hl (by decide), W5, h5, acc ++ [u], ys ++ [y5], ((((ex.trans e2).trans e3).trans e4).trans e5).off hD, hr5.off o2 o3, upd_same, o2, o3, vr5.app (.cons ur .nil), t'⟩
              · exact t'.elim
    · exact t'.elim
theorem m_lc (md : Bool) {js : List Nat} {own : List (Str × Nat)} (hj : ∀ i ∈ js, i ∈ own.map (·.2)) (hi : PI X tg iter (tG X.K mg ei Wx (relI X.K mg) mi))
    (q : PI X tg iter (tG X.K mg ei Wx (relI X.K mg) mi) → PE X o (tLc (tG X.K mg ei Wx (relI X.K mg) mi) (tGt X.K mg ei WN js g) (tT X.K mg ei WN mt) (tE X.K mg ei WN ma) (own.map (·.2)))) : PE X o (tE X.K mg ei Wx (mLc md mi g mt ma (own.map (·.2)))) :=
  PEi (q hi) fun _ _ _ t => t_lc hj t
theorem m_setLc (md : Bool) {i : Nat} {js : List Nat} {own : List (Str × Nat)} (hj : ∀ i ∈ js, i ∈ own.map (·.2)) (q : PS X st (tAsg (tLc (tG X.K mg ei Wx (relI X.K mg) mi) (tGt X.K mg ei WN js g) (tT X.K mg ei WN mt) (tE X.K mg ei WN ma) (own.map (·.2))) (gName i))) :
    PS X st (tS X.K mg ei Wx (mSet i (mLc md mi g mt ma (own.map (·.2))))) := by
  refine PSi q fun D σ H t => ?_
  obtain ⟨W, s, h, hr, sr, t⟩ := t
  refine t_lc (md := md) hj ?_
  refine (tG_lift (rel1 := relV X.K mg) hr sr t).post ?_
  rintro x H1 ⟨W1, v, h1, e1, hr1, sr1, vr, t1⟩
  exact t1 W1 _ H1 (Ex.refl _ _) hr1 (sr1.set ⟨x, rfl, vr⟩)
theorem m_yes {K : PySem.W.Frag} : PTs X [] (tT K mg ei Wx mYes) := ⟨fun pins s σ H Q I t => pts_nil.run pins s σ H Q I (by
  obtain ⟨W, s, h, hr, sr, t⟩ := t
  exact t W H true (Ex.refl _ _) hr rfl)⟩
theorem m_tst {K : PySem.W.Frag} (h : PT X a (tT K mg ei Wx mt)) : PTs X [a] (tT K mg ei Wx mt) := pts_one h
end
end M
set_option Elab.async false
set_option linter.all false
set_option maxRecDepth 100000
set_option maxHeartbeats 4000000
namespace M
open PySem PySem.Spec L2 G
/-! ### what refers below a place -/
mutual
def below (m : Nat) : MV → Bool
  | .tup xs => belows m xs
  | .lst xs => belows m xs
  | .scr xs => belows m xs
  | .dct xs => belowk m xs
  | .ref n => decide (n < m)
  | .er _ fs => belowf m fs
  | .obj _ fs => belowf m fs
  | _ => true
def belows (m : Nat) : List MV → Bool
  | [] => true
  | v :: vs => below m v && belows m vs
def belowk (m : Nat) : List (Key × MV) → Bool
  | [] => true
  | p :: vs => below m p.2 && belowk m vs
def belowf (m : Nat) : List (Str × MV) → Bool
  | [] => true
  | p :: vs => below m p.2 && belowf m vs
end
def belowO (m : Nat) : MO → Bool
  | .lst xs => belows m xs
  | .dct xs => belowk m xs
  | .ins _ fs => belowf m fs
section
variable {K : PySem.W.Frag} {mg : Str → Option Value} {F F' : Hp} {ρ : List Addr}
mutual
theorem VR.cut (m : Nat) (f : ∀ a o, F a = some o → F' a = some o) : ∀ {v : MV} {x : V}, VR K mg F ρ v x → below m v = true → VR K mg F' (ρ.take m) v x
  | _, _, .non, _ => .non
  | _, _, .bl b, _ => .bl b
  | _, _, .int i, _ => .int i
  | _, _, .str x, _ => .str x
  | _, _, .ty n, _ => .ty n
  | _, _, .gl n, _ => .gl n
  | _, _, .tup h hs, e => .tup (sqt_le f h) (VRs.cut' m f hs e)
  | _, _, .lst h hs, e => .lst (f _ _ h) (VRs.cut' m f hs e)
  | _, _, .scr h hs, e => .scr (sql_le f h) (VRs.cut' m f hs e)
  | _, _, .dct h hs, e => .dct (rd_le f h) (VRk.cut m f hs e)
  | _, _, .ref h, e => .ref (by
    rw [List.getElem?_take, if_pos (of_decide_eq_true e)]
    exact h)
  | _, _, .er h1 h2 h3 h4, e => .er h1 (f _ _ h2) (f _ _ h3) (FR.cut m f h4 e)
  | _, _, .obj h1 h2 h3, e => .obj h1 (f _ _ h2) (FR.cut m f h3 e)
theorem VRs.cut' (m : Nat) (f : ∀ a o, F a = some o → F' a = some o) : ∀ {v : List MV} {x : List V}, VRs K mg F ρ v x → belows m v = true → VRs K mg F' (ρ.take m) v x
  | _, _, .nil, _ => .nil
  | _, _, .cons h t, e => by
    simp only [belows, Bool.and_eq_true] at e
    exact .cons (VR.cut m f h e.1) (VRs.cut' m f t e.2)
theorem VRk.cut (m : Nat) (f : ∀ a o, F a = some o → F' a = some o) : ∀ {v : List (Key × MV)} {x : List (Key × V)}, VRk K mg F ρ v x → belowk m v = true → VRk K mg F' (ρ.take m) v x
  | _, _, .nil, _ => .nil
  | _, _, .cons h t, e => by
    simp only [belowk, Bool.and_eq_true] at e
    exact .cons (VR.cut m f h e.1) (VRk.cut m f t e.2)
theorem FR.cut (m : Nat) (f : ∀ a o, F a = some o → F' a = some o) : ∀ {v : List (Str × MV)} {x : List (Str × V)}, FR K mg F ρ v x → belowf m v = true → FR K mg F' (ρ.take m) v x
  | _, _, .nil, _ => .nil
  | _, _, .cons h t, e => by
    simp only [belowf, Bool.and_eq_true] at e
    exact .cons (VR.cut m f h e.1) (FR.cut m f t e.2)
end
theorem OR.cut (m : Nat) (f : ∀ a o, F a = some o → F' a = some o) {o : MO} {u : HO} (h : OR K mg F ρ o u) (e : belowO m o = true) : OR K mg F' (ρ.take m) o u := by
  cases h with
  | lst h => exact .lst (VRs.cut' m f h e)
  | dct h => exact .dct (h.cut m f e)
  | ins c h => exact .ins c (h.cut m f e)
mutual
theorem VR.under {m : Nat} (hm : ρ.length ≤ m) : ∀ {v : MV} {x : V}, VR K mg F ρ v x → below m v = true
  | _, _, .non => rfl
  | _, _, .bl b => rfl
  | _, _, .int i => rfl
  | _, _, .str x => rfl
  | _, _, .ty n => rfl
  | _, _, .gl n => rfl
  | _, _, .tup h hs => VRs.under hm hs
  | _, _, .lst h hs => VRs.under hm hs
  | _, _, .scr h hs => VRs.under hm hs
  | _, _, .dct h hs => VRk.under hm hs
  | _, _, .ref h => decide_eq_true (Nat.lt_of_lt_of_le (List.getElem?_eq_some_iff.mp h).1 hm)
  | _, _, .er h1 h2 h3 h4 => FR.under hm h4
  | _, _, .obj h1 h2 h3 => FR.under hm h3
theorem VRs.under {m : Nat} (hm : ρ.length ≤ m) : ∀ {v : List MV} {x : List V}, VRs K mg F ρ v x → belows m v = true
  | _, _, .nil => rfl
  | _, _, .cons h t => by
    simp only [belows, Bool.and_eq_true]
    exact ⟨VR.under hm h, VRs.under hm t⟩
theorem VRk.under {m : Nat} (hm : ρ.length ≤ m) : ∀ {v : List (Key × MV)} {x : List (Key × V)}, VRk K mg F ρ v x → belowk m v = true
  | _, _, .nil => rfl
  | _, _, .cons h t => by
    simp only [belowk, Bool.and_eq_true]
    exact ⟨VR.under hm h, VRk.under hm t⟩
theorem FR.under {m : Nat} (hm : ρ.length ≤ m) : ∀ {v : List (Str × MV)} {x : List (Str × V)}, FR K mg F ρ v x → belowf m v = true
  | _, _, .nil => rfl
  | _, _, .cons h t => by
    simp only [belowf, Bool.and_eq_true]
    exact ⟨VR.under hm h, FR.under hm t⟩
end
theorem OR.under {m : Nat} (hm : ρ.length ≤ m) {o : MO} {u : HO} (h : OR K mg F ρ o u) : belowO m o = true := by
  cases h with
  | lst h => exact h.under hm
  | dct h => exact h.under hm
  | ins c h => exact h.under hm
end
/-! ### the end of a def -/
def okH (m : Nat) (h h' : MH) : Prop := ∀ (i : Nat) (o : MO), i < m → h'[i]? = some o → h[i]? = some o ∨ belowO m o = true
def settle (m : Nat) (h' : MH) (v : MV) : Option MV := match v with
  | .ref k => if k < m then some (.ref k) else match h'[k]? with
    | some (.lst xs) => if belows m xs then some (.lst xs) else none
    | some (.dct xs) => if belowk m xs then some (.dct xs) else none
    | some (.ins c fs) => if belowf m fs then some (.obj c fs) else none
    | _ => none
  | v => if below m v then some v else none
/-- md: none: the heap as it is; some j: all but the first j new objects are thrown away -/
noncomputable def fin (md : Option Nat) (h : MH) (v : MV) (h' : MH) : R MV := open Classical in match md with
  | none => .ok v h'
  | some j => if okH (h.length + j) h h' then (match settle (h.length + j) h' v with
    | some v' => .ok v' (h'.take (h.length + j))
    | none => .bad) else .bad
noncomputable def finX (md : Option Nat) (h : MH) (c : Str) (fs : Fs) (h' : MH) : R MV := open Classical in match md with
  | none => .exc c fs h'
  | some j => if okH (h.length + j) h h' then (if belowf (h.length + j) fs then .exc c fs (h'.take (h.length + j)) else .bad) else .bad
/-- a def: np parameters, nl further names -/
noncomputable def mFun (md : Option Nat) (np nl : Nat) (m : MS) : MC := fun vs h => if vs.length = np then (match m (vs.map .val ++ List.replicate nl .non) h with
  | .ok f _ h' => match f with
    | .rt v => fin md h v h'
    | .nx => fin md h .non h'
    | _ => .bad
  | .exc c fs _ h' => finX md h c fs h'
  | .bad => .bad) else .bad
section
variable {K : PySem.W.Frag} {mg : Str → Option Value} {W W' : Wd} {h h' : MH} {H H' : Hp}
theorem dropped {m : Nat} (hm : h.length ≤ m) (hr : Hr K mg W h H) (ex : Ex W H W' H') (hr' : Hr K mg W' h' H') (ok : okH m h h') :
    ∃ W'', Ex W H W'' H' ∧ Hr K mg W'' (h'.take m) H' ∧ (∀ v x, VR K mg W'.F W'.ρ v x → below m v = true → VR K mg W''.F W''.ρ v x) ∧ (∀ v v' x, VR K mg W'.F W'.ρ v x → settle m h' v = some v' → VR K mg W''.F W''.ρ v' x) ∧
      (∀ fs gs, FR K mg W'.F W'.ρ fs gs → belowf m fs = true → FR K mg W''.F W''.ρ fs gs) ∧ ∀ a o, W'.F a = some o → W''.F a = some o := by
  have le : ∀ a o, W'.F a = some o → (fun a => if a ∈ W'.ρ.drop m then H' a else W'.F a) a = some o := fun a o e => by
    show (if a ∈ W'.ρ.drop m then H' a else W'.F a) = some o
    split
    · exact hr'.fz a o e
    · exact e
  have rl : ∀ v x, VR K mg W'.F W'.ρ v x → below m v = true → VR K mg (fun a => if a ∈ W'.ρ.drop m then H' a else W'.F a) (W'.ρ.take m) v x := fun v x r e => r.cut m le e
  refine ⟨⟨W'.ρ.take m, fun a => if a ∈ W'.ρ.drop m then H' a else W'.F a⟩, ⟨⟨?_, fun a o e => le a o (ex.le.fz a o e)⟩, fun a o z1 z2 z3 => ?_⟩, ⟨?_, ?_, fun a o e => ?_, fun a ha => ?_, fun n a o z1 z2 => ?_⟩, rl, fun v v' x r e => ?_, fun fs gs r e => r.cut m le e, le⟩
  · obtain ⟨t, ht⟩ := ex.le.pre
    show W.ρ <+: W'.ρ.take m
    rw [← ht, List.take_append, List.take_of_length_le (by rw [hr.len]; exact hm)]
    exact List.prefix_append _ _
  · obtain ⟨q1, q2, q3⟩ := ex.out a o z1 z2 z3
    refine ⟨q1, fun z => q2 (List.mem_of_mem_take z), ?_⟩
    show (if a ∈ W'.ρ.drop m then H' a else W'.F a) = none
    rw [if_neg (fun z => q2 (List.mem_of_mem_drop z))]
    exact q3
  · exact hr'.nd.sublist (List.take_sublist m W'.ρ)
  · show (W'.ρ.take m).length = (h'.take m).length
    rw [List.length_take, List.length_take, hr'.len]
  · have e : (if a ∈ W'.ρ.drop m then H' a else W'.F a) = some o := e
    split at e
    · exact e
    · exact hr'.fz a o e
  · show (if a ∈ W'.ρ.drop m then H' a else W'.F a) = none
    have nd : ∀ b ∈ W'.ρ.take m, ∀ c ∈ W'.ρ.drop m, b ≠ c := by
      have z := hr'.nd
      rw [← List.take_append_drop m W'.ρ] at z
      exact (List.nodup_append.mp z).2.2
    rw [if_neg (fun z => nd a ha a z rfl)]
    exact hr'.nf a (List.mem_of_mem_take ha)
  · have z1 : (W'.ρ.take m)[n]? = some a := z1
    rw [List.getElem?_take] at z1 z2
    split at z1
    · rename_i hn
      rw [if_pos hn] at z2
      obtain ⟨u, q1, q2⟩ := hr'.ob n a o z1 z2
      refine ⟨u, q1, q2.cut m le ?_⟩
      rcases ok n o hn z2 with q | q
      · obtain ⟨_, _, _, _, q3⟩ := hr.at q
        exact q3.under (by rw [hr.len]; exact hm)
      · exact q
    · cases z1
  · have other : ∀ {v : MV} {x : V}, VR K mg W'.F W'.ρ v x → (if below m v then some v else none) = some v' → VR K mg (fun a => if a ∈ W'.ρ.drop m then H' a else W'.F a) (W'.ρ.take m) v' x := fun {v x} r e => by
      split at e
      · rename_i hb
        cases e
        exact rl _ _ r hb
      · cases e
    cases r with
    | @ref k a z =>
      simp only [settle] at e
      split at e
      · rename_i hk
        cases e
        exact rl _ _ (.ref z) (decide_eq_true hk)
      · rename_i hk
        have inD : a ∈ W'.ρ.drop m := by
          rw [List.mem_iff_getElem?]
          refine ⟨k - m, ?_⟩
          rw [List.getElem?_drop, Nat.add_sub_cancel' (by omega)]
          exact z
        split at e
        · rename_i xs hx
          split at e
          · rename_i hb
            cases e
            obtain ⟨ys, q1, q2⟩ := ref_lst hr' z hx
            refine .lst ?_ (q2.cut' m le hb)
            show (if a ∈ W'.ρ.drop m then H' a else W'.F a) = _
            rw [if_pos inD]
            exact q1
          · cases e
        · rename_i xs hx
          split at e
          · rename_i hb
            cases e
            obtain ⟨a', u, e1, e2, e3⟩ := hr'.at hx
            rw [z] at e1
            cases e1
            cases e3 with
            | dct e3 =>
              refine .dct (.inl ?_) (e3.cut m le hb)
              show (if a ∈ W'.ρ.drop m then H' a else W'.F a) = _
              rw [if_pos inD]
              exact e2
          · cases e
        · rename_i c fs hx
          split at e
          · rename_i hb
            cases e
            obtain ⟨a', u, e1, e2, e3⟩ := hr'.at hx
            rw [z] at e1
            cases e1
            cases e3 with
            | @ins c C dx fs gs e3 e4 =>
              refine .obj (d := dx) e3 ?_ (e4.cut m le hb)
              show (if a ∈ W'.ρ.drop m then H' a else W'.F a) = _
              rw [if_pos inD]
              exact e2
          · cases e
        · cases e
    | non => exact other .non e
    | bl q => exact other (.bl q) e
    | int q => exact other (.int q) e
    | str q => exact other (.str q) e
    | ty q => exact other (.ty q) e
    | gl q => exact other (.gl q) e
    | er q1 q2 q3 q4 => exact other (.er q1 q2 q3 q4) e
    | obj q1 q2 q3 => exact other (.obj q1 q2 q3) e
    | tup q r => exact other (.tup q r) e
    | lst q r => exact other (.lst q r) e
    | scr q r => exact other (.scr q r) e
    | dct q r => exact other (.dct q r) e
end
/-! ### promises -/
abbrev WEx (E : XK) : WX := fun c d _ H => E c d H
def spM (K : PySem.W.Frag) (mg : Str → Option Value) (f : MC) : Sp := fun vs H Q E => ∃ W us h, Hr K mg W h H ∧ VRs K mg W.F W.ρ us vs ∧ AfR K mg (WEx E) (relV K mg) W [] H Q (f us h)
section
variable {K : PySem.W.Frag} {mg : Str → Option Value}
theorem fin_go {md : Option Nat} {W W' : Wd} {h h' : MH} {H H' : Hp} {Q : VK} {E : XK} {v : MV} {x : V} (hr : Hr K mg W h H) (ex : Ex W H W' H') (hr' : Hr K mg W' h' H') (vr : VR K mg W'.F W'.ρ v x) (t : AfR K mg (WEx E) (relV K mg) W [] H Q (fin md h v h')) : Q x H' := by
  cases md with
  | none => exact t W' H' x ex hr' vr
  | some j =>
    simp only [fin] at t
    split at t
    · rename_i ok
      split at t
      · rename_i v' hv
        obtain ⟨W'', e1, e2, e3, e4, e5, e6⟩ := dropped (Nat.le_add_right _ _) hr ex hr' ok
        exact t W'' H' x e1 e2 (e4 v v' x vr hv)
      · exact t.elim
    · exact t.elim
theorem finX_go {md : Option Nat} {W W' : Wd} {h h' : MH} {H H' : Hp} {Q : VK} {E : XK} {c : Str} {fs : Fs} {C d : Addr} {gs : List (Str × V)} (hr : Hr K mg W h H) (ex : Ex W H W' H') (hr' : Hr K mg W' h' H') (hC : mg c = some (.ref C)) (hd : W'.F d = some (.xd gs)) (fr : FR K mg W'.F W'.ρ fs gs)
    (t : AfR K mg (WEx E) (relV K mg) W [] H Q (finX md h c fs h')) : E (.ref C) (some d) H' := by
  cases md with
  | none => exact t W' H' C d gs ex hr' hC hd fr
  | some j =>
    simp only [finX] at t
    split at t
    · rename_i ok
      split at t
      · rename_i hb
        obtain ⟨W'', e1, e2, e3, e4, e5, e6⟩ := dropped (Nat.le_add_right _ _) hr ex hr' ok
        exact t W'' H' C d gs e1 e2 hC (e6 _ _ hd) (e5 fs gs fr hb)
      · exact t.elim
    · exact t.elim
theorem sr_start {W : Wd} {us : List MV} {vs : List V} (r : VRs K mg W.F W.ρ us vs) (nl : Nat) : Sr K mg none W (us.map .val ++ List.replicate nl .non) (vs.map some ++ List.replicate nl none) := by
  have hl := r.length
  refine ⟨by simp [hl], fun i a x h1 h2 => ?_⟩
  by_cases hi : i < us.length
  · rw [List.getElem?_append_left (by simpa using hi), List.getElem?_map] at h1
    rw [List.getElem?_append_left (by simpa [← hl] using hi), List.getElem?_map] at h2
    obtain ⟨v, e1, rfl⟩ := Option.map_eq_some_iff.mp h1
    obtain ⟨y, e2, vr⟩ := r.get e1
    rw [e2] at h2
    cases h2
    exact ⟨y, rfl, vr⟩
  · rw [List.getElem?_append_right (by simpa using hi), List.getElem?_replicate] at h1
    split at h1
    · cases h1
      trivial
    · cases h1
/-- a def's promise by its body's reading -/
theorem body_go {md : Option Nat} {N : List Str} {np nl : Nat} {m : MS} {vs : List V} {H : Hp} {Q : VK} {E : XK} (hN : N.length = np + nl) (t : spM K mg (mFun md np nl m) vs H Q E) : vs.length = np ∧ tS K mg none (WEx E) m { nx := fun _ H1 => Q .non H1, rt := Q } (L2.start N vs) H := by
  obtain ⟨W, us, h, hr, vr, t⟩ := t
  unfold mFun at t
  split at t
  · rename_i hl
    have hl2 : vs.length = np := by rw [← vr.length]; exact hl
    refine ⟨hl2, W, us.map .val ++ List.replicate nl .non, h, hr, ?_, ?_⟩
    · have := sr_start vr nl
      unfold L2.start
      rw [show N.length - vs.length = nl by omega]
      exact this
    · cases e : m (us.map .val ++ List.replicate nl .non) h with
      | ok f s' h' =>
        rw [e] at t
        cases f with
        | nx => exact fun W' σ' H' e1 e2 e3 => fin_go hr e1 e2 .non t
        | rt v => exact fun W' σ' H' e1 e2 e3 x vr => fin_go hr e1 e2 vr t
        | bk => exact t.elim
        | ct => exact t.elim
      | exc c fs s' h' =>
        rw [e] at t
        exact fun W' σ' H' C d gs e1 e2 e3 e4 e5 e6 => finX_go hr e1 e2 e4 e5 e6 t
      | bad =>
        rw [e] at t
        exact t.elim
  · exact t.elim
/-- a def of the text -/
abbrev CalM (P : Program) (w : World) (K : PySem.W.Frag) (mg : Str → Option Value) (base : Heap) (k : Nat) (x : Str) (f : MC) : Prop := Cal P w K mg base (L2.CX P w) k x (spM K mg f)
theorem cal_mk {P : Program} {w : World} {base : Heap} {x : Str} {st : Stmt} {f : Addr} {fd : FuncData} {N ps : List Str} {k np nl : Nat} {md : Option Nat} {m : MS} (F : Dfn K mg x st f fd) (S : FnScope N ps (defScope st)) (hp : ps.length = np) (hN : N.length = np + nl)
    (hbd : ∀ (kV doc pm : Value) (an : Option Addr) (cdv ct : Value) (us : List Value), us.length = ps.length → bindArgs (PySem.W.fnOf x x (defArgs st) (defBody st) (defScope st) .none kV doc pm an cdv ct) ⟨us, []⟩ = pure (ps.zip us))
    (hb : ∀ (cdv : Value) (A : Around) (o : List Env) (s : Shared) (H : Hp) (E : XK), A.guards = some [] → Room k (A.deeper (PyProof.Rows.envOfC x (defScope st) s.heap.objs.size f cdv)) →
      PSs (cxOf (L2.CX P w) P w K mg base N x (defScope st) f cdv A o s H E) (defBody st) (tS K mg none (WEx E) m)) : CalM P w K mg base (k + 1) x (mFun md np nl m) := by
  refine cal_ofX F S hbd (fun vs H Q E t => ?_) (fun cdv A o s H vs Q E g r t => ?_)
  · rw [hp]
    exact (body_go hN t).1
  · exact ⟨_, hb cdv A o s H E g r, (body_go hN t).2⟩
end
/-! ### calls -/
def mCall (f : MC) (m : MA) : ME := fun s h => (m s h).bind f
section
variable {X : Cx} {ei : EI} {Wx : WX} {a b o : Expr} {es : List Expr} {pos p apos : Pos} {ma mb mc mo : ME} {mas : MA} {x : Str} {st : Stmt} {sts : List Stmt} {m m1 m2 : MS} {mt : MT} {k j : Nat} {f : MC}
theorem AfR.wish {K : PySem.W.Frag} {mg : Str → Option Value} {α β : Type} {rel : Wd → α → β → Prop} {W : Wd} {σ : L2.St} {H : Hp} {Q : β → Hp → Prop} {r : R α} (t : AfR K mg Wx rel W σ H Q r) : AfR K mg (WEx (WE Wx σ)) rel W [] H Q r := by
  cases r with
  | ok v h => exact t
  | exc c fs h => exact t
  | bad => exact t
theorem m_call (c : CalM X.prog X.w X.K X.mg X.base k x f) (g : X.A.guards = some []) (hr : Room j X.A) (hk : k ≤ j) (hgl : Gl X x) (tk : Takes X Wx) (ha : PA X (a :: es) (tA X.K X.mg ei Wx mas))
    (hdb : (x == ("__debug__" : Str)) = false := by decide) (he : starEach (a :: es) X.env = (false, eval a X.env) :: starEach es X.env := by rfl) (hpl : (backTo pos (starEach es X.env)).any (·.1) = false := by rfl) :
    PE X (.Call (.Name x p) (a :: es) [] pos) (tE X.K X.mg ei Wx (mCall f mas)) := by
  refine PEi (pe_gS c g hr hk hgl tk ha hdb he hpl) fun σ H Q t => ?_
  obtain ⟨W, s, h, hr, sr, t⟩ := t
  refine (tG_bind (rel1 := relVs X.K X.mg) hr sr t).post ?_
  rintro xs H1 ⟨W1, vs, h1, e1, hr1, sr1, vr, t1⟩
  exact ⟨W1, vs, h1, hr1, vr, t1.wish⟩
/-! ### own errors -/
def mRaise (c fld : Str) (m : ME) : MS := fun s h => lift (m s h) s fun v h1 => .exc c [(fld, v)] s h1
theorem m_raise {fld : Str} {C : Addr} {pos2 : Pos} (hc : X.calm = true) (T : ErrN X.prog X.K X.mg x fld C) (hms : X.mg "super" = none) (hr : Room k X.A) (hk : 1 ≤ k) (tk : Takes X Wx) (hg : Gl X x) (ha : PE X a (tE X.K X.mg ei Wx ma)) (hdb : (x == ("__debug__" : Str)) = false := by decide)
    (he : starEach (a :: []) X.env = (false, eval a X.env) :: starEach [] X.env := by rfl) (hpl : (backTo pos (starEach [] X.env)).any (·.1) = false := by rfl) :
    PS X (.Raise (some (.Call (.Name x p) [a] [] pos)) none pos2) (tS X.K X.mg ei Wx (mRaise x fld ma)) := by
  refine PSi (ps_raiseE hc T hms hr hk tk hg (pa_cons ha pa_nil he) hdb he hpl) fun D σ H t => ?_
  obtain ⟨W, s, h, hr, sr, t⟩ := t
  show tE X.K X.mg ei Wx ma σ H _
  refine (tG_lift (rel1 := relV X.K X.mg) hr sr t).post ?_
  rintro y H1 ⟨W1, v, h1, e1, hr1, sr1, vr, t1⟩
  refine ⟨y, rfl, fun d hd => ?_⟩
  obtain ⟨q1, q2⟩ := hr1.newF (u := .xd [(fld, y)]) hd
  exact t1 _ σ _ C d _ q2 q1 (sr1.to q2) T.gC upd_same (.cons (vr.to q2) .nil)
/-- a clause: class, slot, suite -/
abbrev MCl := Str × Nat × MS
/-- no error is held -/
def strip : Sm → Sm
  | [] => []
  | a :: r => (match a with
    | .err _ _ => .non
    | a => a) :: strip r
/-- behind a suite its name is gone -/
def gone (i : Nat) (r : RS) : RS := match r with
  | .ok f s h => .ok f (strip (s.set i .non)) h
  | _ => .bad
def catch_ (sub : Str → Str → Option Bool) (c : Str) (fs : Fs) (s : Sm) (h : MH) : List MCl → RS
  | [] => .exc c fs s h
  | (d, i, m) :: more => match sub c d with
    | none => .bad
    | some b => if b = true then gone i (m (s.set i (.err c fs)) h) else catch_ sub c fs s h more
def mTry (sub : Str → Str → Option Bool) (m : MS) (cs : List MCl) : MS := fun s h => match m s h with
  | .exc c fs s1 h1 => catch_ sub c fs s1 h1 cs
  | r => r
/-- what is known of the errors' classes -/
structure Sub (K : PySem.W.Frag) (mg : Str → Option Value) (sub : Str → Str → Option Bool) : Prop where
  is : ∀ c d b C D, sub c d = some b → mg c = some (.ref C) → mg d = some (.ref D) → PySem.W.exmOne K (.ref C) (.ref D) = some b
inductive ClM (Y : Cx) (ei : EI) : List ExceptHandler → List MCl → Prop
  | nil : ClM Y ei [] []
  | cons {x n : Str} {D : Addr} {i : Nat} {m : MS} {st : Stmt} {sts : List Stmt} {p1 p2 : Pos} {hs : List ExceptHandler} {cs : List MCl} (hi : Y.N[i]? = some n) (hk : Y.env.kindOf n = some .local) (hg : Gl Y x) (hd : (x == ("__debug__" : Str)) = false) (hm : Y.mg x = some (.ref D))
      (hb : ∀ (e : Addr) (oe : Obj) (cls : Value) (d : Option Addr) (pn : List (Addr × Obj)), Zc cls d oe → (∃ fv, oe.data = .fields fv) → PSs (Y.suite e ((e, oe) :: pn)) (st :: sts) (tS Y.K Y.mg (some (e, cls, d)) WN m)) (more : ClM Y ei hs cs) :
      ClM Y ei (.ExceptHandler (some (.Name x p1)) (some n) (st :: sts) p2 :: hs) ((x, i, m) :: cs)
theorem Sr.plain {K : PySem.W.Frag} {mg : Str → Option Value} {ei : EI} {W : Wd} {s : Sm} {σ : L2.St} (r : Sr K mg none W s σ) : Sr K mg ei W s σ := ⟨r.len, fun i a x h1 h2 => by
  have q := r.sl i a x h1 h2
  cases a with
  | non => trivial
  | val v => exact q
  | err c fs =>
    obtain ⟨_, _, _, _, _, e, _⟩ := q
    cases e⟩
/-- the slot of the error is wiped -/
theorem strip_get : ∀ (s : Sm) (i : Nat) (a : Sl), (strip s)[i]? = some a → a = .non ∨ (s[i]? = some a ∧ ∀ c fs, a ≠ .err c fs)
  | [], _, _, e => by cases e
  | b :: r, 0, a, e => by
    simp only [strip, List.getElem?_cons_zero, Option.some.injEq] at e
    cases b with
    | non => exact .inl e.symm
    | val v =>
      subst e
      exact .inr ⟨rfl, fun _ _ z => nomatch z⟩
    | err c fs => exact .inl e.symm
  | b :: r, i + 1, a, e => strip_get r i a e
theorem strip_len : ∀ s : Sm, (strip s).length = s.length
  | [] => rfl
  | _ :: r => congrArg (· + 1) (strip_len r)
theorem Sr.gone {K : PySem.W.Frag} {mg : Str → Option Value} {ei : EI} {W : Wd} {s : Sm} {σ : L2.St} {i : Nat} (r : Sr K mg ei W s σ) : Sr K mg none W (strip (s.set i .non)) (σ.set i none) := by
  have q := r.set (i := i) (a := .non) (x := none) trivial
  refine ⟨by rw [strip_len]; exact q.len, fun j a x h1 h2 => ?_⟩
  rcases strip_get _ _ _ h1 with rfl | ⟨h1, h3⟩
  · trivial
  · have z := q.sl j a x h1 h2
    cases a with
    | non => trivial
    | val v => exact z
    | err c fs => exact absurd rfl (h3 c fs)
/-- the clauses as the layer has them -/
inductive ClK (Y : Cx) : List MCl → List Cls → Prop
  | nil : ClK Y [] []
  | cons {x : Str} {D : Addr} {i : Nat} {m : MS} {cs : List MCl} {ds : List Cls} (hm : Y.mg x = some (.ref D)) (more : ClK Y cs ds) : ClK Y ((x, i, m) :: cs) ((.ref D, i, fun e cls d => tS Y.K Y.mg (some (e, cls, d)) WN m) :: ds)
theorem clm_ok {Y : Cx} {ei : EI} {hs : List ExceptHandler} {cs : List MCl} (h : ClM Y ei hs cs) : ∃ ds, ClsOk Y hs ds ∧ ClK Y cs ds := by
  induction h with
  | nil => exact ⟨[], .nil, .nil⟩
  | cons hi hk hg hd hm hb _ ih =>
    obtain ⟨ds, a, b⟩ := ih
    exact ⟨_, .cons hi hk ⟨hg, hd, .inl hm⟩ hb a, .cons hm b⟩
theorem catch_go {Y : Cx} {sub : Str → Str → Option Bool} (S : Sub Y.K Y.mg sub) {D : Ends} {c : Str} {fs : Fs} {s : Sm} {h : MH} {W W' : Wd} {σ' : L2.St} {H H' : Hp} {C d : Addr} {gs : List (Str × V)} (ex : Ex W H W' H') (hr : Hr Y.K Y.mg W' h H') (sr : Sr Y.K Y.mg none W' s σ') (hC : Y.mg c = some (.ref C)) (hd : W'.F d = some (.xd gs)) (fr : FR Y.K Y.mg W'.F W'.ρ fs gs) :
    ∀ {cs : List MCl} {ds : List Cls}, ClK Y cs ds → AfS Y.K Y.mg none Wx W H D (catch_ sub c fs s h cs) → wNs Y.K Wx D ds (.ref C) (some d) σ' H' := by
  intro cs ds k
  induction k with
  | nil => exact fun t => t W' σ' H' C d gs ex hr sr hC hd fr
  | @cons x D0 i m cs ds hm more ih =>
    intro t
    simp only [catch_] at t
    cases e : sub c x with
    | none => rw [e] at t; exact t.elim
    | some b =>
      rw [e] at t
      refine ⟨b, S.is _ _ _ _ _ e hC hm, fun hb e0 he0 => ?_, fun hb => ?_⟩
      · subst hb
        simp only [if_true] at t
        refine ⟨W', s.set i (.err c fs), h, hr, ?_, ?_⟩
        · exact (sr.plain).set (a := .err c fs) (x := some (.ref e0)) ⟨e0, C, d, gs, rfl, rfl, hC, hd, fr⟩
        · cases q : m (s.set i (.err c fs)) h with
          | ok f s2 h2 =>
            rw [q] at t
            intro W2 σ2 H2 e2 hr2 sr2
            have z := t W2 (σ2.set i none) H2 (ex.trans e2) hr2 sr2.gone
            cases f with
            | nx => exact z
            | rt v => exact z
            | bk => exact z
            | ct => exact z
          | exc c' fs' s2 h2 => rw [q] at t; exact t.elim
          | bad => rw [q] at t; exact t.elim
      · subst hb
        exact ih t
theorem m_try {sub : Str → Str → Option Bool} {body : List Stmt} {h0 : ExceptHandler} {hs : List ExceptHandler} {cs : List MCl} (S : Sub X.K X.mg sub) (hst : X.stack = X.env :: X.outer) (hfr : X.env.frame = some X.env.locals) (hN : X.N.Nodup) (tk : Takes X Wx)
    (hb : ∀ (W : WX) (pn : List (Addr × Obj)) (xe : Value → Shared → Prop), Takes (X.tr pn xe) W → PassesOwn (model X.prog X.w) X.A X.env xe → PSs (X.tr pn xe) body (tS X.K X.mg none W m))
    (hh : ClM X none (h0 :: hs) cs) : PS X (.Try body (h0 :: hs) [] [] pos) (tS X.K X.mg none Wx (mTry sub m cs)) := by
  obtain ⟨ds, c1, c2⟩ := clm_ok hh
  refine PSi (ps_try_named (tb := fun W => tS X.K X.mg none W m) hst hfr hN tk hb c1) fun D σ H t => ?_
  obtain ⟨W, s, h, hr, sr, t⟩ := t
  refine ⟨W, s, h, hr, sr, ?_⟩
  unfold mTry at t
  cases e : m s h with
  | ok f s2 h2 =>
    rw [e] at t
    exact t
  | exc c fs s2 h2 =>
    rw [e] at t
    exact fun W' σ' H' C d gs e1 e2 e3 e4 e5 e6 => catch_go S e1 e2 e3 e4 e5 e6 c2 t
  | bad =>
    rw [e] at t
    exact t
end
end M
set_option Elab.async false
set_option linter.all false
set_option maxRecDepth 100000
set_option maxHeartbeats 4000000
namespace M
open PySem PySem.Spec L2 G
/-! ### the error that a suite holds -/
/-- an own error class under its name -/
structure EInf (prog : Program) (K : PySem.W.Frag) (mg : Str → Option Value) (x fld : Str) : Prop where
  ex : ∃ C, ErrN prog K mg x fld C ∧ ExcC K C
theorem xfc_of {prog : Program} {K : PySem.W.Frag} {mg : Str → Option Value} {x fld : Str} {C : Addr} (T : ErrN prog K mg x fld C) : XfC K C := ⟨T.ga, T.gg, T.exC, T.hdC⟩
def mErrF (i : Nat) (c f : Str) : ME := fun s h => match s[i]? with
  | some (.err c' fs) => if c' = c then opR (fs.lookup f) h else .bad
  | _ => .bad
def mErrIs (i : Nat) (c : Str) (b : Bool) : ME := fun s h => match s[i]? with
  | some (.err c' fs) => if c' = c then .ok (.bl b) h else .bad
  | _ => .bad
section
variable {X : Cx} {ei : EI} {Wx : WX} {a b o : Expr} {es : List Expr} {pos p apos : Pos} {ma mb mc mo : ME} {mas : MA} {x fld : Str} {st : Stmt} {sts : List Stmt} {m m1 m2 : MS} {mt : MT} {k j : Nat} {f : MC}
theorem err_at {K : PySem.W.Frag} {mg : Str → Option Value} {e : Addr} {cls : Value} {d : Option Addr} {W : Wd} {s : Sm} {σ : L2.St} {i : Nat} {c : Str} {fs : Fs} {C : Addr} (sr : Sr K mg (some (e, cls, d)) W s σ) (h : s[i]? = some (.err c fs)) (hC : mg c = some (.ref C)) :
    σ[i]? = some (some (.ref e)) ∧ cls = .ref C ∧ ∃ dd gs, d = some dd ∧ W.F dd = some (.xd gs) ∧ FR K mg W.F W.ρ fs gs := by
  have hl := (List.getElem?_eq_some_iff.mp h).1
  have hl2 : i < σ.length := by rw [← sr.len]; exact hl
  obtain ⟨e', C', d', gs, h1, h2, h3, h4, h5⟩ := sr.sl i _ _ h (List.getElem?_eq_getElem hl2)
  rw [hC] at h3
  cases h3
  cases h2
  exact ⟨(List.getElem?_eq_getElem hl2).trans (congrArg some h1), rfl, d', gs, rfl, h4, h5⟩
theorem m_errF {i : Nat} {e : Addr} {oe : Obj} {cls : Value} {d : Option Addr} {pn : List (Addr × Obj)} {n : Str} (T : EInf X.prog X.K X.mg x fld) (hz : Zc cls d oe) (hf : ∃ vs, oe.data = .fields vs) (he : PE (X.suite e ((e, oe) :: pn)) (.Name n p) (tVar i))
    (hb : attributeBase (.Name n p) fld X.env (eval (.Name n p) X.env) = eval (.Name n p) X.env := by rfl) : PE (X.suite e ((e, oe) :: pn)) (.Attribute (.Name n p) fld pos) (tE X.K X.mg (some (e, cls, d)) Wx (mErrF i x fld)) := by
  obtain ⟨C, T, _⟩ := T.ex
  refine PEi (pe_xf (xfc_of T) T.noN hz hf he hb) fun σ H Q t => ?_
  obtain ⟨W, s, h, hr, sr, t⟩ := t
  unfold mErrF at t
  split at t
  · rename_i c' fs hs
    split at t
    · rename_i hc
      subst hc
      obtain ⟨q1, q2, dd, gs, q3, q4, q5⟩ := err_at sr hs T.gC
      rcases q5.look (f := fld) with ⟨v, y, z1, z2, z3⟩ | ⟨z1, z2⟩
      · rw [z1] at t
        exact ⟨_, q1, rfl, q2, dd, gs, y, q3, hr.fz _ _ q4, z2, t W H _ (Ex.refl _ _) hr z3⟩
      · rw [z1] at t
        exact t.elim
    · exact t.elim
  · exact t.elim
theorem m_errIs {i : Nat} {e : Addr} {oe : Obj} {cls : Value} {d : Option Addr} {pn : List (Addr × Obj)} {n : Str} {r : Bool} {cv : V} {cu : Value} (T : EInf X.prog X.K X.mg x fld) (hz : Zc cls d oe) (hf : ∃ vs, oe.data = .fields vs) (he : PE (X.suite e ((e, oe) :: pn)) (.Name n p) (tVar i))
    (hc : PE (X.suite e ((e, oe) :: pn)) b (tC cv)) (hu : ∀ u, RelV cv u → u = cu) (hk : ∀ C, X.mg x = some (.ref C) → PySem.W.kitOne X.K (.ref C) cu = some r) {p0 : Pos} (hg : Gl X "isinstance") (hm : X.mg "isinstance" = none)
    (hs1 : starEach [.Name n p, b] X.env = (false, eval (.Name n p) X.env) :: starEach [b] X.env := by rfl) (hs2 : starEach [b] X.env = (false, eval b X.env) :: starEach [] X.env := by rfl) (hpl : (backTo pos (starEach [b] X.env)).any (·.1) = false := by rfl) :
    PE (X.suite e ((e, oe) :: pn)) (.Call (.Name "isinstance" p0) [.Name n p, b] [] pos) (tE X.K X.mg (some (e, cls, d)) Wx (mErrIs i x r)) := by
  obtain ⟨C, T, I⟩ := T.ex
  refine PEi (pe_callB (call_isD (X := X) (dd := 0) I hz hf) hg hm (by decide +kernel) (pa_cons he (pa_cons hc pa_nil hs2) hs1) (by decide) (by decide) hs1 hpl) fun σ H Q t => ?_
  obtain ⟨W, s, h, hr, sr, t⟩ := t
  unfold mErrIs at t
  split at t
  · rename_i c' fs hs
    split at t
    · rename_i hc
      subst hc
      obtain ⟨q1, q2, dd, gs, q3, q4, q5⟩ := err_at sr hs T.gC
      exact ⟨_, q1, q2, dd, gs, q3, hr.fz _ _ q4, cv, cu, r, rfl, hu, hk C T.gC, t W H _ (Ex.refl _ _) hr (.bl r)⟩
    · exact t.elim
  · exact t.elim
/-- isinstance(e, D) for an own class D, by their names -/
structure KInf (K : PySem.W.Frag) (mg : Str → Option Value) (x d : Str) (r : Bool) : Prop where
  ex : ∃ D, mg d = some (.ref D) ∧ ∀ C, mg x = some (.ref C) → PySem.W.kitOne K (.ref C) (.ref D) = some r
structure KInB (K : PySem.W.Frag) (mg : Str → Option Value) (x : Str) (d : String) (r : Bool) : Prop where
  is : ∀ C, mg x = some (.ref C) → PySem.W.kitOne K (.ref C) (.type d) = some r
theorem m_errIsO {i : Nat} {e : Addr} {oe : Obj} {cls : Value} {d : Option Addr} {pn : List (Addr × Obj)} {n D : Str} {r : Bool} {p0 p1 : Pos} (T : EInf X.prog X.K X.mg x fld) (k : KInf X.K X.mg x D r) (hz : Zc cls d oe) (hf : ∃ vs, oe.data = .fields vs) (he : PE (X.suite e ((e, oe) :: pn)) (.Name n p) (tVar i))
    (hg : Gl X "isinstance") (hm : X.mg "isinstance" = none) (hgD : Gl (X.suite e ((e, oe) :: pn)) D) (hdD : (D == ("__debug__" : Str)) = false)
    (hs1 : starEach [.Name n p, .Name D p1] X.env = (false, eval (.Name n p) X.env) :: starEach [.Name D p1] X.env := by rfl) (hs2 : starEach [.Name D p1] X.env = (false, eval (.Name D p1) X.env) :: starEach [] X.env := by rfl) (hpl : (backTo pos (starEach [.Name D p1] X.env)).any (·.1) = false := by rfl) :
    PE (X.suite e ((e, oe) :: pn)) (.Call (.Name "isinstance" p0) [.Name n p, .Name D p1] [] pos) (tE X.K X.mg (some (e, cls, d)) Wx (mErrIs i x r)) := by
  obtain ⟨E, k1, k2⟩ := k.ex
  exact m_errIs (cv := .ref E) (cu := .ref E) T hz hf he (pe_glob hgD k1 rfl hdD) (fun u h => h) k2 hg hm hs1 hs2 hpl
theorem m_errIsB {i : Nat} {e : Addr} {oe : Obj} {cls : Value} {d : Option Addr} {pn : List (Addr × Obj)} {n D : Str} {B : String} {r : Bool} {p0 p1 : Pos} (T : EInf X.prog X.K X.mg x fld) (k : KInB X.K X.mg x B r) (hz : Zc cls d oe) (hf : ∃ vs, oe.data = .fields vs) (he : PE (X.suite e ((e, oe) :: pn)) (.Name n p) (tVar i))
    (hg : Gl X "isinstance") (hm : X.mg "isinstance" = none) (hgD : Gl (X.suite e ((e, oe) :: pn)) D) (hmD : X.mg D = none) (hvD : bootBuiltins D = some (.type B)) (hnD : D ≠ "__name__") (hdD : (D == ("__debug__" : Str)) = false)
    (hs1 : starEach [.Name n p, .Name D p1] X.env = (false, eval (.Name n p) X.env) :: starEach [.Name D p1] X.env := by rfl) (hs2 : starEach [.Name D p1] X.env = (false, eval (.Name D p1) X.env) :: starEach [] X.env := by rfl) (hpl : (backTo pos (starEach [.Name D p1] X.env)).any (·.1) = false := by rfl) :
    PE (X.suite e ((e, oe) :: pn)) (.Call (.Name "isinstance" p0) [.Name n p, .Name D p1] [] pos) (tE X.K X.mg (some (e, cls, d)) Wx (mErrIs i x r)) :=
  m_errIs (cv := .ty B) (cu := .type B) T hz hf he (pe_bltn (v := .ty B) hgD hmD hvD rfl hnD hdD) (fun u h => h) k.is hg hm hs1 hs2 hpl
/-- the same for rules that ask for an error class by its name -/
theorem m_raiseE {pos2 : Pos} (T : EInf X.prog X.K X.mg x fld) (hc : X.calm = true) (hms : X.mg "super" = none) (hr : Room k X.A) (hk : 1 ≤ k) (tk : Takes X Wx) (hg : Gl X x) (ha : PE X a (tE X.K X.mg ei Wx ma)) (hdb : (x == ("__debug__" : Str)) = false := by decide)
    (he : starEach (a :: []) X.env = (false, eval a X.env) :: starEach [] X.env := by rfl) (hpl : (backTo pos (starEach [] X.env)).any (·.1) = false := by rfl) :
    PS X (.Raise (some (.Call (.Name x p) [a] [] pos)) none pos2) (tS X.K X.mg ei Wx (mRaise x fld ma)) := by
  obtain ⟨C, T, _⟩ := T.ex
  exact m_raise hc T hms hr hk tk hg ha hdb he hpl
theorem clm_cons {Y : Cx} {n : Str} {i : Nat} {p1 p2 : Pos} {hs : List ExceptHandler} {cs : List MCl} (T : EInf Y.prog Y.K Y.mg x fld) (hi : Y.N[i]? = some n) (hk : Y.env.kindOf n = some .local) (hg : Gl Y x) (hd : (x == ("__debug__" : Str)) = false)
    (hb : ∀ (e : Addr) (oe : Obj) (cls : Value) (d : Option Addr) (pn : List (Addr × Obj)), Zc cls d oe → (∃ fv, oe.data = .fields fv) → PSs (Y.suite e ((e, oe) :: pn)) (st :: sts) (tS Y.K Y.mg (some (e, cls, d)) WN m)) (more : ClM Y ei hs cs) :
    ClM Y ei (.ExceptHandler (some (.Name x p1)) (some n) (st :: sts) p2 :: hs) ((x, i, m) :: cs) := by
  obtain ⟨C, T, _⟩ := T.ex
  exact .cons hi hk hg hd T.gC hb more
end
/-! ### the law's end -/
section
variable {P : Program} {w : World} {K : PySem.W.Frag} {mg : Str → Option Value} {base : Heap}
/-- a def that lets nothing out -/
theorem cal_calm {k : Nat} {x : Str} {sp : Sp} (c : Cal P w K mg base (L2.CX P w) k x sp) : Cal P w K mg base CX0 k x (fun vs H Q _ => sp vs H Q fun _ _ _ => False) := by
  obtain ⟨f, fd, ps, F, a⟩ := c.ex
  refine ⟨f, fd, ps, ⟨fun vs H Q E h => F.len vs H Q _ h, fun A o s H ar us vs Q E g r e b v h => ?_⟩, a⟩
  refine codeAny_mono (F.go A o s H ar us vs Q _ g r e b v h) fun z s' q => ?_
  match z, q with
  | .ok (.ret u), q => exact q
  | .error e, q =>
    obtain ⟨_, _, _, _, _, _, _, _, _, _, _, _, no⟩ := q
    exact no.elim
/-- what a law's def promises -/
def spLaw (K : PySem.W.Frag) : Sp := fun vs H Q _ => ∃ (a : Addr) (ns : List Int), vs = [.ref a] ∧ SqL K H a (ns.map V.int) ∧ ns.length ≤ 63 ∧ ∀ H', Q (.bl true) H'
def scrM (ns : List Int) : MV := .scr (ns.map .int)
theorem law_cal {k : Nat} {x : Str} {f : MC} (c : CalM P w K mg base k x f) (t : ∀ ns : List Int, ns.length ≤ 63 → ∃ h, f [scrM ns] [] = .ok (.bl true) h) : Cal P w K mg base CX0 k x (spLaw K) := by
  refine (cal_calm c).imp fun vs H Q E q => ?_
  obtain ⟨a, ns, rfl, hs, hl, q⟩ := q
  obtain ⟨h', e⟩ := t ns hl
  have sf : SqL K (fun b => if b = a then H a else none) a (ns.map V.int) := by
    rcases hs with (hs | ⟨o, hs⟩) | hs
    · exact .inl (.inl (by show (if a = a then H a else none) = _; rw [if_pos rfl]; exact hs))
    · exact .inl (.inr ⟨o, by show (if a = a then H a else none) = _; rw [if_pos rfl]; exact hs⟩)
    · exact .inr hs
  have ri : ∀ ns : List Int, VRs K mg (fun b => if b = a then H a else none) [] (ns.map MV.int) (ns.map V.int) := by
    intro ns
    induction ns with
    | nil => exact .nil
    | cons n r ih => exact .cons (.int n) ih
  refine ⟨⟨[], fun b => if b = a then H a else none⟩, [scrM ns], [], ⟨List.nodup_nil, rfl, fun b o e => ?_, fun b m => (List.not_mem_nil m).elim, fun n b o e => by cases e⟩, .cons (.scr sf (ri ns)) .nil, ?_⟩
  · have e : (if b = a then H a else none) = some o := e
    split at e
    · rename_i z
      rw [z]
      exact e
    · cases e
  · rw [e]
    intro W' H' y e1 e2 e3
    cases e3
    exact q H'
end
end M
set_option Elab.async false
set_option linter.all false
set_option maxRecDepth 100000
set_option maxHeartbeats 4000000
namespace M
open PySem PySem.Spec L2 G
/-! ### reckoning: what pieces come to -/
theorem str_lit (a b : String) : (Str.ofString a = Str.ofString b) = (a = b) := by
  apply propext
  constructor
  · intro h
    rw [Str.ofString_eq_toList, Str.ofString_eq_toList] at h
    injection h with h
    have h : a.toList.map Char.toNat = b.toList.map Char.toNat := by simpa using congrArg Array.toList h
    have inj : ∀ l m : List Char, l.map Char.toNat = m.map Char.toNat → l = m := by
      intro l
      induction l with
      | nil => intro m e; cases m with
        | nil => rfl
        | cons _ _ => cases e
      | cons c r ih => intro m e; cases m with
        | nil => cases e
        | cons d t =>
          rw [List.map_cons, List.map_cons] at e
          injection e with e1 e2
          rw [Char.toNat_inj.mp e1, ih t e2]
    have h : a.toList = b.toList := inj _ _ h
    exact String.toList_inj.mp h
  · intro h
    rw [h]
theorem str_beq (a b : Str) : (a == b) = decide (a = b) := by
  by_cases h : a = b
  · subst h
    simp
  · rw [decide_eq_false h]
    exact beq_eq_false_iff_ne.mpr h
section
variable {α : Type} (s : Sm) (h h' : MH) (v w u : MV) (i j : Int) (x y : Str) (b c : Bool) (xs ys : List MV) (md : Bool) (cn : Str) (fs : Fs)
def getS (o : Option Sl) (h : MH) : R MV := match o with
  | some (.val v) => .ok v h
  | _ => .bad
theorem e_var (i : Nat) : mVar i s h = getS s[i]? h := by
  unfold mVar getS
  cases s[i]? with
  | none => rfl
  | some a => cases a <;> rfl
theorem getS_val : getS (some (.val v)) h = .ok v h := rfl
theorem e_k : mK v s h = .ok v h := rfl
theorem e_nil : mNil s h = .ok [] h := rfl
def kCons1 (mr : MA) (s : Sm) (r : R MV) : R (List MV) := r.bind fun v h1 => (mr s h1).bind fun vs h2 => .ok (v :: vs) h2
def kCons2 (v : MV) (r : R (List MV)) : R (List MV) := r.bind fun vs h2 => .ok (v :: vs) h2
theorem e_cons (ma : ME) (mr : MA) : mCons ma mr s h = kCons1 mr s (ma s h) := rfl
theorem k_cons1 (mr : MA) : kCons1 mr s (.ok v h) = kCons2 v (mr s h) := rfl
theorem k_cons1x (mr : MA) : kCons1 mr s (.exc cn fs h) = .exc cn fs h := rfl
theorem k_cons2 : kCons2 v (.ok xs h) = .ok (v :: xs) h := rfl
theorem k_cons2x : kCons2 v (.exc cn fs h) = .exc cn fs h := rfl
def kTup (r : R (List MV)) : R MV := r.bind newT
def kLst (md : Bool) (r : R (List MV)) : R MV := r.bind (newL md)
theorem e_tup (m : MA) : mTup m s h = kTup (m s h) := rfl
theorem k_tup : kTup (.ok xs h) = newT xs h := rfl
theorem k_tupx : kTup (.exc cn fs h) = .exc cn fs h := rfl
theorem e_lst (m : MA) : mLst md m s h = kLst md (m s h) := rfl
theorem k_lst : kLst md (.ok xs h) = newL md xs h := rfl
theorem k_lstx : kLst md (.exc cn fs h) = .exc cn fs h := rfl
def kOp1 (g : M2) (mb : ME) (s : Sm) (r : R MV) : R MV := r.bind fun v h1 => (mb s h1).bind fun w h2 => noX (g v w h2)
def kOp2 (g : M2) (v : MV) (r : R MV) : R MV := r.bind fun w h2 => noX (g v w h2)
theorem e_op (g : M2) (ma mb : ME) : mOp g ma mb s h = kOp1 g mb s (ma s h) := rfl
theorem k_op1 (g : M2) (mb : ME) : kOp1 g mb s (.ok v h) = kOp2 g v (mb s h) := rfl
theorem k_op1x (g : M2) (mb : ME) : kOp1 g mb s (.exc cn fs h) = .exc cn fs h := rfl
theorem k_op2 (g : M2) : kOp2 g v (.ok w h) = noX (g v w h) := rfl
theorem k_op2x (g : M2) : kOp2 g v (.exc cn fs h) = .exc cn fs h := rfl
theorem e_test (m : ME) : mTest m s h = asB (m s h) := rfl
theorem asB_ok : asB (.ok (.bl b) h) = .ok b h := rfl
theorem asB_x : asB (.exc cn fs h) = .exc cn fs h := rfl
theorem noX_ok (a : α) : noX (.ok a h) = .ok a h := rfl
theorem noX_bad : noX (.bad : R α) = .bad := rfl
def kCh1 (g g' : M2) (mb mc : ME) (s : Sm) (r : R MV) : R MV := r.bind fun v h1 => (mb s h1).bind fun w h2 => (asB (noX (g v w h2))).bind fun k h3 => if k = true then (mc s h3).bind fun u h4 => noX (g' w u h4) else .ok (.bl false) h3
def kCh2 (g g' : M2) (mc : ME) (s : Sm) (v : MV) (r : R MV) : R MV := r.bind fun w h2 => (asB (noX (g v w h2))).bind fun k h3 => if k = true then (mc s h3).bind fun u h4 => noX (g' w u h4) else .ok (.bl false) h3
def kCh3 (g' : M2) (mc : ME) (s : Sm) (w : MV) (r : R Bool) : R MV := r.bind fun k h3 => if k = true then (mc s h3).bind fun u h4 => noX (g' w u h4) else .ok (.bl false) h3
theorem e_chain (g g' : M2) (ma mb mc : ME) : mChain g g' ma mb mc s h = kCh1 g g' mb mc s (ma s h) := rfl
theorem k_ch1 (g g' : M2) (mb mc : ME) : kCh1 g g' mb mc s (.ok v h) = kCh2 g g' mc s v (mb s h) := rfl
theorem k_ch2 (g g' : M2) (mc : ME) : kCh2 g g' mc s v (.ok w h) = kCh3 g' mc s w (asB (noX (g v w h))) := rfl
theorem k_ch3t (g' : M2) (mc : ME) : kCh3 g' mc s w (.ok true h) = kOp2 g' w (mc s h) := rfl
theorem k_ch3f (g' : M2) (mc : ME) : kCh3 g' mc s w (.ok false h) = .ok (.bl false) h := rfl
def kAnd (mb : ME) (s : Sm) (r : R Bool) : R MV := r.bind fun k h1 => if k = true then mb s h1 else .ok (.bl false) h1
def kOr (mb : ME) (s : Sm) (r : R Bool) : R MV := r.bind fun k h1 => if k = true then .ok (.bl true) h1 else mb s h1
theorem e_and (ma mb : ME) : mAnd ma mb s h = kAnd mb s (asB (ma s h)) := rfl
theorem k_andt (mb : ME) : kAnd mb s (.ok true h) = mb s h := rfl
theorem k_andf (mb : ME) : kAnd mb s (.ok false h) = .ok (.bl false) h := rfl
theorem e_or (ma mb : ME) : mOr ma mb s h = kOr mb s (asB (ma s h)) := rfl
theorem k_ort (mb : ME) : kOr mb s (.ok true h) = .ok (.bl true) h := rfl
theorem k_orf (mb : ME) : kOr mb s (.ok false h) = mb s h := rfl
def kNot (r : R Bool) : R MV := r.bind fun k h1 => .ok (.bl (!k)) h1
theorem e_not (ma : ME) : mNot ma s h = kNot (asB (ma s h)) := rfl
theorem k_not : kNot (.ok b h) = .ok (.bl (!b)) h := rfl
def kIf (ma mb : ME) (s : Sm) (r : R Bool) : R MV := r.bind fun k h1 => if k = true then ma s h1 else mb s h1
theorem e_if (mt : MT) (ma mb : ME) : mIf mt ma mb s h = kIf ma mb s (mt s h) := rfl
theorem k_ift (ma mb : ME) : kIf ma mb s (.ok true h) = ma s h := rfl
theorem k_iff (ma mb : ME) : kIf ma mb s (.ok false h) = mb s h := rfl
def kTAnd (mu : MT) (s : Sm) (r : R Bool) : R Bool := r.bind fun k h1 => if k = true then mu s h1 else .ok false h1
def kTOr (mu : MT) (s : Sm) (r : R Bool) : R Bool := r.bind fun k h1 => if k = true then .ok true h1 else mu s h1
def kTNot (r : R Bool) : R Bool := r.bind fun k h1 => .ok (!k) h1
theorem e_tand (mt mu : MT) : mTAnd mt mu s h = kTAnd mu s (mt s h) := rfl
theorem k_tandt (mu : MT) : kTAnd mu s (.ok true h) = mu s h := rfl
theorem k_tandf (mu : MT) : kTAnd mu s (.ok false h) = .ok false h := rfl
theorem e_tor (mt mu : MT) : mTOr mt mu s h = kTOr mu s (mt s h) := rfl
theorem k_tort (mu : MT) : kTOr mu s (.ok true h) = .ok true h := rfl
theorem k_torf (mu : MT) : kTOr mu s (.ok false h) = mu s h := rfl
theorem e_tnot (mt : MT) : mTNot mt s h = kTNot (mt s h) := rfl
theorem k_tnot : kTNot (.ok b h) = .ok (!b) h := rfl
def onRef {α : Type} (f : List MV → R α) (o : Option MO) : R α := match o with
  | some (.lst xs) => f xs
  | _ => .bad
theorem onRef_lst (f : List MV → R α) : onRef f (some (.lst xs)) = f xs := rfl
def blR (e b : Bool) (h : MH) : R MV := if e then .ok (.bl b) h else .bad
theorem blR_t : blR true b h = .ok (.bl b) h := rfl
def truR (o : Option Bool) (h : MH) : R Bool := match o with
  | some b => .ok b h
  | none => .bad
theorem truR_some : truR (some b) h = .ok b h := rfl
def kTru (r : R MV) : R Bool := r.bind fun v h1 => truR (truth h1 v) h1
theorem e_tru (m : ME) : mTru m s h = kTru (m s h) := rfl
theorem k_tru : kTru (.ok v h) = truR (truth h v) h := rfl
theorem k_trux : kTru (.exc cn fs h) = .exc cn fs h := rfl
theorem tru_bl : truth h (.bl b) = some b := rfl
theorem tru_int : truth h (.int i) = some (i != 0) := rfl
theorem tru_lst : truth h (.lst xs) = some (!xs.isEmpty) := rfl
theorem tru_tup : truth h (.tup xs) = some (!xs.isEmpty) := rfl
theorem k_truR (n : Nat) : kTru (.ok (.ref n) h) = match h[n]? with
    | some (.lst xs) => .ok (!xs.isEmpty) h
    | some (.dct xs) => .ok (!xs.isEmpty) h
    | _ => .bad := by
  simp only [kTru, bind_ok, truth] <;> (cases h[n]? with
    | none => rfl
    | some o => cases o <;> rfl)
def kCB (g : MC) (r : R (List MV)) : R MV := r.bind fun vs h1 => noX (g vs h1)
theorem e_cb (g : MC) (m : MA) : mCB g m s h = kCB g (m s h) := rfl
theorem k_cb (g : MC) : kCB g (.ok xs h) = noX (g xs h) := rfl
theorem k_cbx (g : MC) : kCB g (.exc cn fs h) = .exc cn fs h := rfl
theorem e_on1 (f : MV → MH → R MV) : on1 f [v] h = f v h := rfl
theorem e_on2 (f : MV → MV → MH → R MV) : on2 f [v, w] h = f v w h := rfl
def kCall (f : MC) (r : R (List MV)) : R MV := r.bind f
theorem e_call (f : MC) (m : MA) : mCall f m s h = kCall f (m s h) := rfl
theorem k_call (f : MC) : kCall f (.ok xs h) = f xs h := rfl
theorem k_callx (f : MC) : kCall f (.exc cn fs h) = .exc cn fs h := rfl
def negR (v : MV) (h : MH) : R MV := match v with
  | .int i => .ok (.int (-i)) h
  | _ => .bad
def kNeg (r : R MV) : R MV := r.bind negR
theorem e_neg (m : ME) : mNeg m s h = kNeg (m s h) := rfl
theorem k_neg : kNeg (.ok (.int i) h) = .ok (.int (-i)) h := rfl
def lmR (g : MV → MC) (m : MA) (s : Sm) (v : MV) (o : Option (List MV)) (h1 : MH) : R MV := match o with
  | some _ => (m s h1).bind fun vs h2 => noX (g v vs h2)
  | none => .bad
def kLm (g : MV → MC) (m : MA) (s : Sm) (r : R MV) : R MV := r.bind fun v h1 => lmR g m s v (lstOf h1 v) h1
def kLm2 (g : MV → MC) (v : MV) (r : R (List MV)) : R MV := r.bind fun vs h2 => noX (g v vs h2)
theorem e_lm (g : MV → MC) (mo : ME) (m : MA) : mLm g mo m s h = kLm g m s (mo s h) := by
  unfold mLm kLm
  congr
theorem k_lm (n : Nat) (g : MV → MC) (m : MA) : kLm g m s (.ok (.ref n) h) = onRef (fun _ => kLm2 g (.ref n) (m s h)) h[n]? := by
  simp only [kLm, bind_ok, lstOf, onRef] <;> (cases h[n]? with
    | none => rfl
    | some o => cases o <;> rfl)
theorem k_lm2 (g : MV → MC) : kLm2 g v (.ok xs h) = noX (g v xs h) := rfl
theorem k_lm2x (g : MV → MC) : kLm2 g v (.exc cn fs h) = .exc cn fs h := rfl
def smR (g : MV → MC) (m : MA) (s : Sm) (v : MV) (h1 : MH) : R MV := match v with
  | .str _ => (m s h1).bind fun vs h2 => noX (g v vs h2)
  | _ => .bad
def kSm (g : MV → MC) (m : MA) (s : Sm) (r : R MV) : R MV := r.bind fun v h1 => smR g m s v h1
theorem e_sm (g : MV → MC) (mo : ME) (m : MA) : mSm g mo m s h = kSm g m s (mo s h) := by
  unfold mSm kSm
  congr
theorem k_sm (g : MV → MC) (m : MA) : kSm g m s (.ok (.str x) h) = kLm2 g (.str x) (m s h) := rfl
theorem e_pn : mPn s h = .ok none h := rfl
def psR (v : MV) (h : MH) : R (Option Int) := match v with
  | .int i => .ok (some i) h
  | _ => .bad
def kPs (r : R MV) : R (Option Int) := r.bind psR
theorem e_ps (m : ME) : mPs m s h = kPs (m s h) := rfl
theorem k_ps : kPs (.ok (.int i) h) = .ok (some i) h := rfl
def kSl1 (md : Bool) (lo hi : MP) (s : Sm) (r : R MV) : R MV := r.bind fun v h1 => (lo s h1).bind fun l h2 => (hi s h2).bind fun u h3 => noX (fCut md v l u h3)
def kSl2 (md : Bool) (hi : MP) (s : Sm) (v : MV) (r : R (Option Int)) : R MV := r.bind fun l h2 => (hi s h2).bind fun u h3 => noX (fCut md v l u h3)
def kSl3 (md : Bool) (v : MV) (l : Option Int) (r : R (Option Int)) : R MV := r.bind fun u h3 => noX (fCut md v l u h3)
theorem e_sl (m : ME) (lo hi : MP) : mSl md m lo hi s h = kSl1 md lo hi s (m s h) := rfl
theorem k_sl1 (lo hi : MP) : kSl1 md lo hi s (.ok v h) = kSl2 md hi s v (lo s h) := rfl
theorem k_sl2 (hi : MP) (l : Option Int) : kSl2 md hi s v (.ok l h) = kSl3 md v l (hi s h) := rfl
theorem k_sl3 (l u : Option Int) : kSl3 md v l (.ok u h) = noX (fCut md v l u h) := rfl
def kRev (md : Bool) (r : R MV) : R MV := r.bind fun v h1 => noX (fRev md v h1)
theorem e_rev (m : ME) : mRev md m s h = kRev md (m s h) := rfl
theorem k_rev : kRev md (.ok v h) = noX (fRev md v h) := rfl
def errFR (cn f : Str) (o : Option Sl) (h : MH) : R MV := match o with
  | some (.err c' fs) => if c' = cn then opR (fs.lookup f) h else .bad
  | _ => .bad
def errIR (cn : Str) (b : Bool) (o : Option Sl) (h : MH) : R MV := match o with
  | some (.err c' fs) => if c' = cn then .ok (.bl b) h else .bad
  | _ => .bad
theorem e_errF (i : Nat) (f : Str) : mErrF i cn f s h = errFR cn f s[i]? h := by
  unfold mErrF errFR
  congr
theorem e_errIs (i : Nat) : mErrIs i cn b s h = errIR cn b s[i]? h := by
  unfold mErrIs errIR
  congr
theorem k_errF (f : Str) : errFR cn f (some (.err cn fs)) h = opR (fs.lookup f) h := by
  simp [errFR]
theorem k_errIs : errIR cn b (some (.err cn fs)) h = .ok (.bl b) h := by
  simp [errIR]
/-! statements -/
theorem e_seq (m1 m2 : MS) : mSeq m1 m2 s h = seqS (m1 s h) m2 := rfl
theorem e_nx : mNx s h = .ok .nx s h := rfl
theorem e_bk : mBk s h = .ok .bk s h := rfl
theorem e_ct : mCt s h = .ok .ct s h := rfl
def kDrop (s : Sm) (r : R MV) : RS := lift r s fun _ h1 => .ok .nx s h1
theorem e_drop (m : ME) : mDrop m s h = kDrop s (m s h) := rfl
theorem k_drop : kDrop s (.ok v h) = .ok .nx s h := rfl
theorem k_dropx : kDrop s (.exc cn fs h) = .exc cn fs s h := rfl
def kRet (s : Sm) (r : R MV) : RS := lift r s fun v h1 => .ok (.rt v) s h1
theorem e_ret (m : ME) : mRet m s h = kRet s (m s h) := rfl
theorem k_ret : kRet s (.ok v h) = .ok (.rt v) s h := rfl
theorem k_retx : kRet s (.exc cn fs h) = .exc cn fs s h := rfl
theorem e_retN : mRetN s h = .ok (.rt .non) s h := rfl
def kIfS (m1 m2 : MS) (s : Sm) (r : R Bool) : RS := lift r s fun b h1 => if b = true then m1 s h1 else m2 s h1
theorem e_ifS (mt : MT) (m1 m2 : MS) : mIfS mt m1 m2 s h = kIfS m1 m2 s (mt s h) := rfl
theorem k_ifSt (m1 m2 : MS) : kIfS m1 m2 s (.ok true h) = m1 s h := rfl
theorem k_ifSf (m1 m2 : MS) : kIfS m1 m2 s (.ok false h) = m2 s h := rfl
theorem k_ifSx (m1 m2 : MS) : kIfS m1 m2 s (.exc cn fs h) = .exc cn fs s h := rfl
def kSet (i : Nat) (s : Sm) (r : R MV) : RS := lift r s fun v h1 => .ok .nx (s.set i (.val v)) h1
theorem e_set (i : Nat) (m : ME) : mSet i m s h = kSet i s (m s h) := rfl
theorem k_set (i : Nat) : kSet i s (.ok v h) = .ok .nx (s.set i (.val v)) h := rfl
theorem k_setx (i : Nat) : kSet i s (.exc cn fs h) = .exc cn fs s h := rfl
def kAsg (g : MG) (s : Sm) (r : R MV) : RS := lift r s fun v h1 => lift (g v s h1) s fun s1 h2 => .ok .nx s1 h2
def kAsg2 (s : Sm) (r : R Sm) : RS := lift r s fun s1 h2 => .ok .nx s1 h2
theorem e_asg (m : ME) (g : MG) : mAsg m g s h = kAsg g s (m s h) := rfl
theorem k_asg (g : MG) : kAsg g s (.ok v h) = kAsg2 s (g v s h) := rfl
theorem k_asgx (g : MG) : kAsg g s (.exc cn fs h) = .exc cn fs s h := rfl
theorem k_asg2 (s1 : Sm) : kAsg2 s (.ok s1 h) = .ok .nx s1 h := rfl
def parR (i j : Nat) (s : Sm) (vs : List MV) (h : MH) : RS := match vs with
  | [v, w] => .ok .nx ((s.set i (.val v)).set j (.val w)) h
  | _ => .bad
def kPar (i j : Nat) (s : Sm) (r : R (List MV)) : RS := lift r s fun vs h1 => parR i j s vs h1
theorem e_par (i j : Nat) (m : MA) : mPar i j m s h = kPar i j s (m s h) := rfl
theorem k_par (i j : Nat) : kPar i j s (.ok [v, w] h) = .ok .nx ((s.set i (.val v)).set j (.val w)) h := rfl
theorem e_gn (i : Nat) : gN i v s h = .ok (s.set i (.val v)) h := rfl
theorem e_gs0 : gs0 [] s h = .ok s h := rfl
def kGs (gs : MGs) (xs : List MV) (r : R Sm) : R Sm := r.bind fun s1 h1 => noX (gs xs s1 h1)
theorem e_gs1 (g : MG) (gs : MGs) : gs1 g gs (v :: xs) s h = kGs gs xs (noX (g v s h)) := rfl
theorem k_gs (gs : MGs) : kGs gs xs (.ok s h) = noX (gs xs s h) := rfl
theorem e_gtp (n : Nat) (gs : MGs) (e : xs.length = n) : gTp n gs (.tup xs) s h = noX (gs xs s h) := by
  simp only [gTp]
  rw [if_pos e]
def sbR (v : MV) (s : Sm) (o i : MV) (h2 : MH) : R Sm := match o with
  | .ref n => match h2[n]? with
    | some (.lst xs) => match i with
      | .int k => match ixN xs.length k with
        | some j => .ok s (h2.set n (.lst (xs.set j v)))
        | none => .bad
      | _ => .bad
    | _ => .bad
  | _ => .bad
def kSb1 (mi : ME) (v : MV) (s : Sm) (r : R MV) : R Sm := r.bind fun o h1 => (mi s h1).bind fun i h2 => sbR v s o i h2
def kSb2 (v : MV) (s : Sm) (o : MV) (r : R MV) : R Sm := r.bind fun i h2 => sbR v s o i h2
theorem e_sb (mo mi : ME) : gSb mo mi v s h = kSb1 mi v s (mo s h) := by
  unfold gSb kSb1
  congr
theorem k_sb1 (mi : ME) (o : MV) : kSb1 mi v s (.ok o h) = kSb2 v s o (mi s h) := rfl
theorem k_sb2 (o i : MV) : kSb2 v s o (.ok i h) = sbR v s o i h := rfl
theorem sbR_ok {n : Nat} {k : Int} {j : Nat} (h1 : h[n]? = some (.lst xs)) (h2 : ixN xs.length k = some j) : sbR v s (.ref n) (.int k) h = .ok s (h.set n (.lst (xs.set j v))) := by
  simp only [sbR, h1, h2]
def kRaise (c fld : Str) (s : Sm) (r : R MV) : RS := lift r s fun v h1 => .exc c [(fld, v)] s h1
theorem e_raise (c fld : Str) (m : ME) : mRaise c fld m s h = kRaise c fld s (m s h) := rfl
theorem k_raise (c fld : Str) : kRaise c fld s (.ok v h) = .exc c [(fld, v)] s h := rfl
def kIt (r : R MV) : R Src := r.bind fun v h1 => opR (srcOf h1 v) h1
theorem e_it (m : ME) : mIt m s h = kIt (m s h) := rfl
theorem k_it : kIt (.ok v h) = opR (srcOf h v) h := rfl
noncomputable def kFor (g : MG) (body : MS) (s : Sm) (r : R Src) : RS := lift r s fun c h1 => runF c g body c.its s h1
theorem e_for (mi : MI) (g : MG) (body : MS) : mFor mi g body s h = kFor g body s (mi s h) := rfl
theorem k_for (g : MG) (body : MS) (o : Option Nat) : kFor g body s (.ok ⟨xs, o⟩ h) = runF ⟨xs, o⟩ g body xs s h := rfl
noncomputable def kTurn (g : MG) (body : MS) (zs xs : List MV) (s : Sm) (r : R Sm) : RS := lift r s fun s1 h1 => afterB (body s1 h1) fun s2 h2 => runF ⟨zs, none⟩ g body xs s2 h2
noncomputable def kTurn2 (g : MG) (body : MS) (zs xs : List MV) (r : RS) : RS := afterB r fun s2 h2 => runF ⟨zs, none⟩ g body xs s2 h2
theorem run_nil (g : MG) (body : MS) (zs : List MV) : runF ⟨zs, none⟩ g body [] s h = .ok .nx s h := by
  unfold runF
  rw [if_pos (src_ok zs h)]
theorem run_cons (g : MG) (body : MS) (zs : List MV) : runF ⟨zs, none⟩ g body (v :: xs) s h = kTurn g body zs xs s (g v s h) := by
  conv => lhs; unfold runF
  rw [if_pos (src_ok zs h)]
  rfl
theorem k_turn (g : MG) (body : MS) (zs : List MV) (s1 : Sm) : kTurn g body zs xs s (.ok s1 h) = kTurn2 g body zs xs (body s1 h) := rfl
theorem k_turnN (g : MG) (body : MS) (zs : List MV) : kTurn2 g body zs xs (.ok .nx s h) = runF ⟨zs, none⟩ g body xs s h := rfl
theorem k_turnC (g : MG) (body : MS) (zs : List MV) : kTurn2 g body zs xs (.ok .ct s h) = runF ⟨zs, none⟩ g body xs s h := rfl
theorem k_turnB (g : MG) (body : MS) (zs : List MV) : kTurn2 g body zs xs (.ok .bk s h) = .ok .nx s h := rfl
theorem k_turnR (g : MG) (body : MS) (zs : List MV) : kTurn2 g body zs xs (.ok (.rt v) s h) = .ok (.rt v) s h := rfl
theorem k_turnX (g : MG) (body : MS) (zs : List MV) : kTurn2 g body zs xs (.exc cn fs s h) = .exc cn fs s h := rfl
theorem src_str : srcOf h (.str x) = some ⟨signs x, none⟩ := rfl
theorem src_tup : srcOf h (.tup xs) = some ⟨xs, none⟩ := rfl
theorem src_lst : srcOf h (.lst xs) = some ⟨xs, none⟩ := rfl
theorem src_scr : srcOf h (.scr xs) = some ⟨xs, none⟩ := rfl
def kTry (sub : Str → Str → Option Bool) (cs : List MCl) (r : RS) : RS := match r with
  | .exc c fs s1 h1 => catch_ sub c fs s1 h1 cs
  | r => r
theorem e_try (sub : Str → Str → Option Bool) (m : MS) (cs : List MCl) : mTry sub m cs s h = kTry sub cs (m s h) := rfl
theorem k_try (sub : Str → Str → Option Bool) (cs : List MCl) (f : Fl) : kTry sub cs (.ok f s h) = .ok f s h := rfl
theorem k_tryx (sub : Str → Str → Option Bool) (cs : List MCl) : kTry sub cs (.exc cn fs s h) = catch_ sub cn fs s h cs := rfl
theorem k_catch0 (sub : Str → Str → Option Bool) : catch_ sub cn fs s h [] = .exc cn fs s h := rfl
theorem k_catchT (sub : Str → Str → Option Bool) (d : Str) (i : Nat) (m : MS) (cs : List MCl) (e : sub cn d = some true) : catch_ sub cn fs s h ((d, i, m) :: cs) = gone i (m (s.set i (.err cn fs)) h) := by
  simp only [catch_, e]
  rfl
theorem k_catchF (sub : Str → Str → Option Bool) (d : Str) (i : Nat) (m : MS) (cs : List MCl) (e : sub cn d = some false) : catch_ sub cn fs s h ((d, i, m) :: cs) = catch_ sub cn fs s h cs := by
  simp only [catch_, e]
  rfl
theorem k_goneR (i : Nat) : gone i (.ok (.rt v) s h) = .ok (.rt v) (strip (s.set i .non)) h := rfl
noncomputable def finR (md : Option Nat) (h : MH) (r : RS) : R MV := match r with
  | .ok f _ h' => match f with
    | .rt v => fin md h v h'
    | .nx => fin md h .non h'
    | _ => .bad
  | .exc c fs _ h' => finX md h c fs h'
  | .bad => .bad
theorem e_fun (md : Option Nat) (np nl : Nat) (m : MS) (e : xs.length = np) : mFun md np nl m xs h = finR md h (m (xs.map .val ++ List.replicate nl .non) h) := by
  rw [mFun, if_pos e]
  rfl
theorem finR_rt (md : Option Nat) : finR md h (.ok (.rt v) s h') = fin md h v h' := rfl
theorem finR_nx (md : Option Nat) : finR md h (.ok .nx s h') = fin md h .non h' := rfl
theorem finR_exc (md : Option Nat) : finR md h (.exc cn fs s h') = finX md h cn fs h' := rfl
theorem fin_raw : fin none h v h' = .ok v h' := rfl
theorem finX_raw : finX none h cn fs h' = .exc cn fs h' := rfl
theorem okH_app (t : MH) : okH h.length h (h ++ t) := fun i o hi e => by
  rw [List.getElem?_append_left hi] at e
  exact .inl e
def setR (o : Option MV) (h : MH) : R MV := match o with
  | some v => .ok v h
  | none => .bad
theorem setR_some : setR (some v) h = .ok v h := rfl
theorem fin_app (t : MH) : fin (some 0) h v (h ++ t) = setR (settle h.length (h ++ t) v) h := by
  simp only [fin, Nat.add_zero]
  rw [if_pos (okH_app h t), List.take_left]
  rfl
theorem fin_self : fin (some 0) h v h = setR (settle h.length h v) h := by
  have := fin_app h v []
  rw [List.append_nil] at this
  exact this
theorem finX_app (t : MH) : finX (some 0) h cn fs (h ++ t) = if belowf h.length fs then .exc cn fs h else .bad := by
  simp only [finX, Nat.add_zero]
  rw [if_pos (okH_app h t), List.take_left]
/-! values -/
theorem v_newT (hl : xs.length ≤ 1000000) : newT xs h = .ok (.tup xs) h := by rw [newT, if_pos hl]
theorem v_newL (hl : xs.length ≤ 1000000) : newL false xs h = .ok (.lst xs) h := by rw [newL, if_pos hl]; rfl
theorem v_newR (hl : xs.length ≤ 1000000) : newL true xs h = .ok (.ref h.length) (h ++ [.lst xs]) := by rw [newL, if_pos hl]; rfl
theorem v_addI : gAdd md (.int i) (.int j) h = .ok (.int (i + j)) h := rfl
theorem v_addS : gAdd md (.str x) (.str y) h = if x.length + y.length ≤ 1000000 then .ok (.str (x ++ y)) h else .bad := rfl
theorem v_addL : gAdd md (.lst xs) (.lst ys) h = newL md (xs ++ ys) h := rfl
theorem v_addT : gAdd md (.tup xs) (.tup ys) h = newT (xs ++ ys) h := rfl
theorem v_addRL (n : Nat) : gAdd md (.ref n) (.lst ys) h = onRef (fun xs => newL md (xs ++ ys) h) h[n]? := by
  simp only [gAdd, cat2, lstOf, onRef] <;> (cases h[n]? with
    | none => rfl
    | some o => cases o <;> rfl)
theorem v_dif : gDif (.int i) (.int j) h = .ok (.int (i - j)) h := rfl
theorem v_mulL (hj : 0 ≤ j ∧ j ≤ 1000000 ∧ xs.length * j.toNat ≤ 1000000) : gMul md (.lst xs) (.int j) h = newL md (List.replicate j.toNat xs).flatten h := by
  simp only [gMul, rep2, lstOf]
  rw [if_pos hj]
theorem v_mulI (hj : i.natAbs < 2 ^ 64 ∨ j.natAbs < 2 ^ 64 ∨ i.natAbs.log2 + j.natAbs.log2 < 1000000) : gMul md (.int i) (.int j) h = .ok (.int (i * j)) h := by
  simp only [gMul]
  rw [if_pos hj]
theorem v_mod (hj : 0 < j) : gMod (.int i) (.int j) h = .ok (.int (i % j)) h := by
  simp only [gMod]
  rw [if_pos hj]
theorem v_div (hj : 0 < j ∧ j.natAbs.log2 < 9000) : gDiv (.int i) (.int j) h = .ok (.int (i / j)) h := by
  simp only [gDiv]
  rw [if_pos hj]
theorem v_pow (hj : 0 ≤ j ∧ j ≤ 1000000 ∧ i.natAbs < 2 ^ 64) : gPow (.int i) (.int j) h = .ok (.int (i ^ j.toNat)) h := by
  simp only [gPow]
  rw [if_pos hj]
theorem v_eqS : gEq (.str x) (.str y) h = .ok (.bl (decide (x = y))) h := by
  show R.ok (MV.bl (x == y)) h = _
  rw [str_beq]
theorem v_eqI : gEq (.int i) (.int j) h = .ok (.bl (decide (i = j))) h := by
  show R.ok (MV.bl (i == j)) h = _
  congr 2
theorem v_neS : gNe (.str x) (.str y) h = .ok (.bl (!decide (x = y))) h := by
  show R.ok (MV.bl (!(x == y))) h = _
  rw [str_beq]
theorem v_neI : gNe (.int i) (.int j) h = .ok (.bl (!decide (i = j))) h := by
  show R.ok (MV.bl (!(i == j))) h = _
  congr 2
theorem v_inT : gIn v (.tup xs) h = blR (flatM v && xs.all flatM) (inF v xs) h := by
  simp only [gIn, inM, seqOf, blR]
  cases flatM v && xs.all flatM <;> rfl
theorem v_inL : gIn v (.lst xs) h = blR (flatM v && xs.all flatM) (inF v xs) h := by
  simp only [gIn, inM, seqOf, blR]
  cases flatM v && xs.all flatM <;> rfl
theorem v_niT : gNi v (.tup xs) h = blR (flatM v && xs.all flatM) (!inF v xs) h := by
  simp only [gNi, inM, seqOf, blR]
  cases flatM v && xs.all flatM <;> rfl
theorem v_niL : gNi v (.lst xs) h = blR (flatM v && xs.all flatM) (!inF v xs) h := by
  simp only [gNi, inM, seqOf, blR]
  cases flatM v && xs.all flatM <;> rfl
theorem v_inR (n : Nat) : gIn v (.ref n) h = onRef (fun xs => blR (flatM v && xs.all flatM) (inF v xs) h) h[n]? := by
  simp only [gIn, inM, seqOf, blR, onRef]
  cases h[n]? with
  | none => rfl
  | some o =>
    cases o with
    | lst xs =>
      simp only
      cases flatM v && xs.all flatM <;> rfl
    | _ => rfl
def nonM : MV → Bool
  | .non => true
  | _ => false
theorem v_isn : gIsn v .non h = .ok (.bl (!nonM v)) h := by
  cases v <;> rfl
theorem v_is : gIs v .non h = .ok (.bl (nonM v)) h := by
  cases v <;> rfl
theorem v_len : fLen (.str x) h = if x.length ≤ 1000000 then .ok (.int x.length) h else .bad := rfl
theorem v_lenL : fLen (.lst xs) h = .ok (.int xs.length) h := rfl
theorem v_lenT : fLen (.tup xs) h = .ok (.int xs.length) h := rfl
theorem v_lenC : fLen (.scr xs) h = .ok (.int xs.length) h := rfl
theorem v_lenR (n : Nat) : fLen (.ref n) h = onRef (fun xs => .ok (.int xs.length) h) h[n]? := by
  simp only [fLen, seqOf, onRef] <;> (cases h[n]? with
    | none => rfl
    | some o => cases o <;> rfl)
theorem v_abs : fAbs (.int i) h = .ok (.int (if i < 0 then -i else i)) h := rfl
theorem v_intI : fInt (.int i) h = .ok (.int i) h := rfl
theorem v_intB : fInt (.bl b) h = .ok (.int (if b then 1 else 0)) h := rfl
theorem v_max : fMax (.int i) (.int j) h = .ok (.int (if j > i then j else i)) h := rfl
theorem v_min : fMin (.int i) (.int j) h = .ok (.int (if j < i then j else i)) h := rfl
theorem v_listL : fList md (.lst xs) h = newL md xs h := rfl
theorem v_listT : fList md (.tup xs) h = newL md xs h := rfl
theorem v_listR (n : Nat) : fList md (.ref n) h = onRef (fun xs => newL md xs h) h[n]? := by
  simp only [fList, seqOf, onRef] <;> (cases h[n]? with
    | none => rfl
    | some o => cases o <;> rfl)
theorem v_tupL : fTuple (.lst xs) h = newT xs h := rfl
theorem v_tupT : fTuple (.tup xs) h = newT xs h := rfl
theorem v_tupR (n : Nat) : fTuple (.ref n) h = onRef (fun xs => newT xs h) h[n]? := by
  simp only [fTuple, seqOf, onRef] <;> (cases h[n]? with
    | none => rfl
    | some o => cases o <;> rfl)
def isiR (o : Option String) (T : String) (h : MH) : R MV := match o with
  | some t => .ok (.bl (subT t T)) h
  | none => .bad
theorem isiR_some (t T : String) : isiR (some t) T h = .ok (.bl (subT t T)) h := rfl
theorem v_isi (T : String) (e1 : tysL.contains T = true) : fIsi v (.ty T) h = isiR (tyM h v) T h := by
  simp only [fIsi, e1, if_true]
  rfl
theorem v_ltI : gLt (.int i) (.int j) h = .ok (.bl (decide (i < j))) h := rfl
theorem v_leI : gLe (.int i) (.int j) h = .ok (.bl (decide (i ≤ j))) h := rfl
theorem v_gtI : gGt (.int i) (.int j) h = .ok (.bl (decide (j < i))) h := rfl
theorem v_geI : gGe (.int i) (.int j) h = .ok (.bl (decide (j ≤ i))) h := rfl
theorem v_ixL : gIx (.lst xs) (.int i) h = opR (atI xs i) h := by
  simp only [gIx, seqOf, opR]
  cases atI xs i <;> rfl
theorem v_ixT : gIx (.tup xs) (.int i) h = opR (atI xs i) h := by
  simp only [gIx, seqOf, opR]
  cases atI xs i <;> rfl
theorem v_ixC : gIx (.scr xs) (.int i) h = opR (atI xs i) h := by
  simp only [gIx, seqOf, opR]
  cases atI xs i <;> rfl
theorem v_ixR (n : Nat) : gIx (.ref n) (.int i) h = onRef (fun xs => opR (atI xs i) h) h[n]? := by
  simp only [gIx, seqOf, opR, onRef]
  cases h[n]? with
  | none => rfl
  | some o =>
    cases o with
    | lst xs =>
      simp only
      cases atI xs i <;> rfl
    | _ => rfl
theorem v_app (n : Nat) : lAppend (.ref n) [v] h = onRef (fun xs => if xs.length < 1000000 then .ok .non (h.set n (.lst (xs ++ [v]))) else .bad) h[n]? := by
  simp only [lAppend, onL, onRef] <;> (cases h[n]? with
    | none => rfl
    | some o => cases o <;> rfl)
theorem v_upper (hl : x.length ≤ 1000000) : sUpper (.str x) [] h = .ok (.str (Txt.upper x)) h := by
  simp only [sUpper]
  rw [if_pos hl]
theorem v_cutC (lo hi : Option Int) : fCut md (.scr xs) lo hi h = newL md (cutM xs lo hi) h := rfl
theorem v_cutL (lo hi : Option Int) : fCut md (.lst xs) lo hi h = newL md (cutM xs lo hi) h := rfl
theorem v_cutT (lo hi : Option Int) : fCut md (.tup xs) lo hi h = newT (cutM xs lo hi) h := rfl
theorem v_cutR (n : Nat) (lo hi : Option Int) : fCut md (.ref n) lo hi h = onRef (fun xs => newL md (cutM xs lo hi) h) h[n]? := by
  simp only [fCut, seqOf, onRef] <;> (cases h[n]? with
    | none => rfl
    | some o => cases o <;> rfl)
theorem v_revL : fRev md (.lst xs) h = newL md xs.reverse h := rfl
def shR (o : Option PyData) (h : MH) : R MV := match o with
  | some d => if fine d = true ∧ d.depth ≤ 40 ∧ G.wt d ≤ 1000000 then .ok (.str d.shown) h else .bad
  | none => .bad
theorem v_repr : fRepr v h = shR (dat h v) h := by
  unfold fRepr shR
  cases dat h v <;> rfl
theorem shR_fine {d : PyData} (hf : Fine d) : shR (some d) h = .ok (.str d.shown) h := by
  simp only [shR]
  rw [if_pos ⟨hf.ok, hf.dp, hf.wt⟩]
theorem v_isiS : fIsi v (.ty "str") h = isiR (tyM h v) "str" h := v_isi h v _ (by decide)
theorem v_isiI : fIsi v (.ty "int") h = isiR (tyM h v) "int" h := v_isi h v _ (by decide)
theorem v_isiB : fIsi v (.ty "bool") h = isiR (tyM h v) "bool" h := v_isi h v _ (by decide)
theorem v_isiT : fIsi v (.ty "tuple") h = isiR (tyM h v) "tuple" h := v_isi h v _ (by decide)
theorem v_isiL : fIsi v (.ty "list") h = isiR (tyM h v) "list" h := v_isi h v _ (by decide)
theorem at_lit (n : Nat) : atI xs (no_index (OfNat.ofNat n : Int)) = xs[n]? := by
  show atI xs ((n : Nat) : Int) = _
  unfold atI ixN
  rw [if_pos (by omega)]
  by_cases hn : n < xs.length
  · rw [if_pos (by omega)]
    simp
  · rw [if_neg (by omega)]
    simp only [Option.bind_none]
    rw [List.getElem?_eq_none (by omega)]
theorem at_last : atI xs (-1) = xs[xs.length - 1]? := by
  unfold atI ixN
  rw [if_neg (by omega)]
  by_cases hn : xs = []
  · subst hn
    rfl
  · have hl : 0 < xs.length := List.length_pos_iff.mpr hn
    rw [if_pos (by omega)]
    show xs[(-1 + (xs.length : Int)).toNat]? = _
    congr 1
    omega
theorem ix_lit (k n : Nat) (hk : n < k) : ixN k (no_index (OfNat.ofNat n : Int)) = some n := by
  show ixN k ((n : Nat) : Int) = _
  unfold ixN
  rw [if_pos (by omega), if_pos (by omega)]
  simp
theorem v_mulN (n : Nat) (hn : n < 18446744073709551616) : gMul md (.int i) (.int (no_index (OfNat.ofNat n))) h = .ok (.int (i * (OfNat.ofNat n : Int))) h := v_mulI h i _ md (.inr (.inl (by show Int.natAbs ((n : Nat) : Int) < 2 ^ 64; omega)))
theorem v_mulM (n : Nat) (hn : n < 18446744073709551616) : gMul md (.int (no_index (OfNat.ofNat n))) (.int j) h = .ok (.int ((OfNat.ofNat n : Int) * j)) h := v_mulI h _ j md (.inl (by show Int.natAbs ((n : Nat) : Int) < 2 ^ 64; omega))
theorem v_divN (n : Nat) (hn : 0 < n) (hm : n < 18446744073709551616) : gDiv (.int i) (.int (no_index (OfNat.ofNat n))) h = .ok (.int (i / (OfNat.ofNat n : Int))) h := v_div h i _ ⟨by show (0 : Int) < ((n : Nat) : Int); omega, by
  show n.log2 < 9000
  exact Nat.lt_trans (PySem.Flt.log2_lt_of (k := 64) (by decide) (by omega)) (by decide)⟩
theorem v_powN (n m : Nat) (hn : n ≤ 1000) (hm : m < 18446744073709551616) : gPow (.int (no_index (OfNat.ofNat m))) (.int (no_index (OfNat.ofNat n))) h = .ok (.int ((OfNat.ofNat m : Int) ^ n)) h := v_pow h _ _ ⟨by show (0 : Int) ≤ ((n : Nat) : Int); omega, by show ((n : Nat) : Int) ≤ 1000000; omega, by show Int.natAbs ((m : Nat) : Int) < 2 ^ 64; omega⟩
def sbO (v : MV) (s : Sm) (n : Nat) (xs : List MV) (o : Option Nat) (h : MH) : R Sm := match o with
  | some j => .ok s (h.set n (.lst (xs.set j v)))
  | none => .bad
theorem sbO_some (n j : Nat) : sbO v s n xs (some j) h = .ok s (h.set n (.lst (xs.set j v))) := rfl
theorem v_sb (n : Nat) (k : Int) : sbR v s (.ref n) (.int k) h = onRef (fun xs => sbO v s n xs (ixN xs.length k) h) h[n]? := by
  simp only [sbR, onRef, sbO] <;> (cases h[n]? with
    | none => rfl
    | some o => cases o <;> rfl)
def pop0 (n : Nat) (h : MH) (xs : List MV) : R MV := match xs with
  | [] => .bad
  | y :: r => .ok y (h.set n (.lst r))
theorem pop0_cons (n : Nat) : pop0 n h (v :: xs) = .ok v (h.set n (.lst xs)) := rfl
theorem v_pop0 (n : Nat) : lPop (.ref n) [.int 0] h = onRef (pop0 n h) h[n]? := by
  simp only [lPop, onL, onRef]
  cases h[n]? with
  | none => rfl
  | some o =>
    cases o with
    | lst xs =>
      cases xs with
      | nil => rfl
      | cons y r =>
        have e : seqIndex? 0 (y :: r).length = some 0 := by
          unfold seqIndex?
          simp
        simp only [e]
        rfl
    | _ => rfl
theorem v_mulL0 : gMul md (.lst xs) (.int 0) h = newL md [] h := by
  rw [v_mulL h 0 xs md ⟨by decide, by decide, by simp⟩]
  simp
theorem v_mulL1 (hl : xs.length ≤ 1000000) : gMul md (.lst xs) (.int 1) h = newL md xs h := by
  rw [v_mulL h 1 xs md ⟨by decide, by decide, by simpa using hl⟩]
  simp
/-! the small heap -/
theorem h_last (o : MO) : (h ++ [o])[h.length]? = some o := by simp
theorem h_set (o o' : MO) : (h ++ [o]).set h.length o' = h ++ [o'] := by simp
def setO (m : Nat) (o : Option MO) : Option MV := match o with
  | some (.lst xs) => if belows m xs then some (.lst xs) else none
  | some (.dct xs) => if belowk m xs then some (.dct xs) else none
  | some (.ins c fs) => if belowf m fs then some (.obj c fs) else none
  | _ => none
theorem setO_ins (m : Nat) (c : Str) (fs : List (Str × MV)) : setO m (some (.ins c fs)) = if belowf m fs = true then some (.obj c fs) else none := rfl
theorem setO_lst (m : Nat) : setO m (some (.lst xs)) = if belows m xs = true then some (.lst xs) else none := rfl
theorem set_ref (n m : Nat) (t : MH) : settle m t (.ref n) = if n < m then some (.ref n) else setO m t[n]? := rfl
theorem set_val (t : MH) (hb : below h.length v = true) (hr : ∀ n, v ≠ .ref n) : settle h.length t v = some v := by
  cases v <;> first | (simp only [settle, hb, if_true]; done) | exact absurd rfl (hr _)
theorem set_tup (t : MH) (hb : belows h.length xs = true) : settle h.length t (.tup xs) = some (.tup xs) := set_val h _ t hb fun _ z => nomatch z
theorem set_lst (t : MH) (hb : belows h.length xs = true) : settle h.length t (.lst xs) = some (.lst xs) := set_val h _ t hb fun _ z => nomatch z
end
end M
namespace M
open PySem PySem.Spec L2 G
/-! ### lists of ints -/
def IntsM (xs : List MV) : Prop := ∀ v ∈ xs, ∃ i, v = MV.int i
theorem ints_map {xs : List MV} (h : IntsM xs) : ∃ ns : List Int, xs = ns.map MV.int := by
  induction xs with
  | nil => exact ⟨[], rfl⟩
  | cons v r ih =>
    obtain ⟨i, rfl⟩ := h v List.mem_cons_self
    obtain ⟨ns, rfl⟩ := ih fun w hw => h w (List.mem_cons_of_mem _ hw)
    exact ⟨i :: ns, rfl⟩
theorem dat_ints : ∀ ns : List Int, datVs (ns.map MV.int) = some (ns.map PyData.int)
  | [] => rfl
  | n :: r => by
    rw [List.map_cons, List.map_cons]
    simp only [datVs, datV, dat_ints r]
    rfl
theorem can_ints : ∀ ns : List Int, PyData.canLayAll0 (ns.map PyData.int) = true
  | [] => by simp only [List.map_nil, PyData.canLayAll0]
  | n :: r => by simp only [List.map_cons, PyData.canLayAll0, PyData.canLay0, can_ints r, Bool.and_self]
theorem dep_ints : ∀ ns : List Int, PyData.depthAll (ns.map PyData.int) = 0
  | [] => by simp only [List.map_nil, PyData.depthAll]
  | n :: r => by simp only [List.map_cons, PyData.depthAll, PyData.depth, dep_ints r, Nat.max_self]
theorem shaped_ints (ns : List Int) : SeqAt.shaped (.list (ns.map PyData.int)) = true := by
  unfold SeqAt.shaped
  simp only [PyData.canLay0, can_ints, PyData.depth, dep_ints, Bool.true_and]
  decide
theorem eq_nil {h : MH} {n : Nat} {xs : List MV} (e : h[n]? = some (.lst xs)) (hi : IntsM xs) : eqM h (.ref n) (.lst []) = some xs.isEmpty := by
  obtain ⟨ns, rfl⟩ := ints_map hi
  have e1 : dat h (.ref n) = some (.list (ns.map PyData.int)) := by
    simp only [dat, e, dat_ints]
    rfl
  have e2 : dat h (.lst []) = some (.list []) := rfl
  unfold eqM
  rw [if_neg (show ¬ (scM (.ref n) (.lst []) = true) from Bool.false_ne_true)]
  simp only [e1, e2]
  rw [shaped_ints, show SeqAt.shaped (.list []) = true from shaped_ints [], Bool.and_self, if_pos rfl]
  cases ns with
  | nil => simp [PyData.eqv, PyData.eqvAll]
  | cons a r => simp [PyData.eqv, PyData.eqvAll]
theorem ne_nilR {h : MH} {n : Nat} {xs : List MV} (e : h[n]? = some (.lst xs)) (hi : IntsM xs) : gNe (.ref n) (.lst []) h = .ok (.bl (!xs.isEmpty)) h := by
  simp only [gNe, eq_nil e hi]
theorem eq_nilR {h : MH} {n : Nat} {xs : List MV} (e : h[n]? = some (.lst xs)) (hi : IntsM xs) : gEq (.ref n) (.lst []) h = .ok (.bl xs.isEmpty) h := by
  simp only [gEq, eq_nil e hi]
end M
namespace M
open PySem PySem.Spec L2 G
/-! ### loops by an invariant -/
theorem run_inv {P : Sm → MH → Prop} {g : MG} {body : MS} {zs : List MV} : ∀ {xs : List MV} {s : Sm} {h : MH}, P s h →
    (∀ v ∈ xs, ∀ s h, P s h → ∃ s1 h1 s2 h2, g v s h = .ok s1 h1 ∧ (body s1 h1 = .ok .nx s2 h2 ∨ body s1 h1 = .ok .ct s2 h2) ∧ P s2 h2) → ∃ s' h', runF ⟨zs, none⟩ g body xs s h = .ok .nx s' h' ∧ P s' h'
  | [], s, h, h0, _ => ⟨s, h, run_nil _ _ _ _ _, h0⟩
  | v :: xs, s, h, h0, st => by
    obtain ⟨s1, h1, s2, h2, e1, e2, p⟩ := st v List.mem_cons_self s h h0
    obtain ⟨s', h', e3, p'⟩ := run_inv (xs := xs) p fun w hw => st w (List.mem_cons_of_mem _ hw)
    refine ⟨s', h', ?_, p'⟩
    rw [run_cons, e1, k_turn]
    rcases e2 with e2 | e2
    · rw [e2, k_turnN]
      exact e3
    · rw [e2, k_turnC]
      exact e3
/-! ### data -/
theorem ok_lit (s : String) : PyData.strOk (Str.ofString s) = true := by
  unfold PyData.strOk
  rw [Str.ofString_eq_toList]
  rw [Array.all_eq_true_iff_forall_mem]
  intro c hc
  have hc : c ∈ s.toList.map Char.toNat := by simpa using hc
  obtain ⟨d, _, rfl⟩ := List.mem_map.mp hc
  refine decide_eq_true ?_
  have := d.valid
  unfold Char.toNat
  rcases this with h | h
  · have h : d.val.toNat < 55296 := h
    omega
  · have h : d.val.toNat < 1114112 := h.2
    omega
/-- a value that can be shown and compared -/
structure Good (v : MV) (d : PyData) : Prop where
  dat : ∀ h, M.dat h v = some d
  fine : Fine d
  ok : PyData.strOk d.shown = true
theorem ne_self {h : MH} {v : MV} {d : PyData} (e : M.dat h v = some d) (hs : SeqAt.shaped d = true) (hn : scM v v = false) : gNe v v h = .ok (.bl false) h := by
  simp only [gNe, eqM, hn, e, hs, Bool.and_self, if_true, Bool.false_eq_true, if_false]
  rw [SeqAt.eqv_refl d (SeqAt.canLay_of_shaped hs)]
  rfl
theorem str_app (a b : String) : (Str.ofString a ++ Str.ofString b) = Str.ofString (a ++ b) := by
  rw [Str.ofString_eq_toList, Str.ofString_eq_toList, Str.ofString_eq_toList, String.toList_append, List.map_append]
  show Str.mk _ = _
  congr 1
  simp
end M
namespace M
open PySem PySem.Spec L2 G
def goodB (v : MV) : Bool := match datV v with
  | some d => fine d && (decide (d.depth ≤ 40) && (decide (G.wt d ≤ 1000000) && PyData.strOk d.shown))
  | none => false
theorem dat_of {v : MV} {d : PyData} (e : datV v = some d) (h : MH) : M.dat h v = some d := by
  cases v <;> first | exact e | cases e
theorem good_of {v : MV} (e : goodB v = true) : ∃ d, Good v d := by
  unfold goodB at e
  split at e
  · rename_i d hd
    simp only [Bool.and_eq_true, decide_eq_true_eq] at e
    exact ⟨d, dat_of hd, ⟨e.1, e.2.1, e.2.2.1⟩, e.2.2.2⟩
  · cases e
theorem good_int {i : Int} (h : i.natAbs < 2 ^ 600) : Good (.int i) (.int i) := by
  refine ⟨fun h => rfl, ⟨by simp only [fine]; exact decide_eq_true h, ?_, ?_⟩, ?_⟩
  · simp only [PyData.depth]
    omega
  · simp only [G.wt]
    omega
  · simp only [PyData.shown]
    exact ok_lit _
theorem look1 (f : Str) (v : MV) : List.lookup f [(f, v)] = some v := by simp [List.lookup]
theorem repr_good {v : MV} {d : PyData} (g : Good v d) (h : MH) : fRepr v h = .ok (.str d.shown) h := by
  rw [v_repr, g.dat]
  exact shR_fine h g.fine
/-- text, or of a type that is no text -/
def NoStr (v : MV) : Prop := ∃ t, (∀ h, tyM h v = some t) ∧ subT t "str" = false
theorem isi_no {v : MV} (n : NoStr v) (h : MH) : fIsi v (.ty "str") h = .ok (.bl false) h := by
  obtain ⟨t, e1, e2⟩ := n
  rw [v_isiS, e1, isiR_some, e2]
end M
namespace M
theorem inF_nil (v : MV) : inF v [] = false := rfl
theorem inF_cons (v w : MV) (r : List MV) : inF v (w :: r) = (eqF w v || inF v r) := rfl
end M
set_option Elab.async false
set_option linter.all false
set_option maxRecDepth 100000
set_option maxHeartbeats 4000000
namespace M
open PySem PySem.Spec L2 G
/-! ### facts of the written part, from what the top has left -/
theorem along_of {K : PySem.W.Frag} {D : Addr} {nm q : Str} {N : Addr} {bs bm : List Value} {hd : Bool} {sn : List Str} {sub : List Value} {ab : Bool} {col : Option Bool} {dd : Option Addr} {k0 k1 k2 k3 k5 : Option Value} {id : String} {n : Str} {v : Value}
    (l : K.lookup D = some (excClassObj nm q D N bs bm hd sn sub ab col dd k0 k1 k2 k3 k5 id)) (f : PySem.W.findIn K (.ref D) n = some (some v)) : PySem.W.alongIn K n (.ref D :: bm) = some (some v) := by
  unfold PySem.W.findIn at f
  simp only [l] at f
  exact f
theorem einf_mk {prog : Program} {K : PySem.W.Frag} {h : Heap} {mg : Str → Option Value} {x fld : Str} {C PE fI cda cc : Addr} (KX : K.In h) (ns : h.Ns mainGlobals mg)
    {nm q nm' q' qual file msg : Str} {N N' : Addr} {bs bmP bs' sub sub' : List Value} {hd' ab ab' : Bool} {sn sn' : List Str} {col col' : Option Bool} {dd dd' od an dcd dcc : Option Addr} {k0 k1 k2 k3 k5 m0 m1 m2 m3 m5 : Option Value} {id' : String} {oc doc pm ct clcd clcc : Value} {osl slcd slcc : Array (Option Value)} {vs : Array Value} {tf : Tok} {j : Nat} {p1 p2 r0 r1 r2 r3 r4 r5 q1 q2 q3 q4 : Pos}
    (aC : PySem.W.nsIn K mainGlobals x = some (some (.ref C)))
    (lC : K.lookup C = some (excClassObj nm q C N bs (.ref PE :: bmP) true sn sub ab col dd k0 k1 k2 k3 k5 "ValueError.__new__"))
    (lP : K.lookup PE = some (excClassObj nm' q' PE N' bs' bmP hd' sn' sub' ab' col' dd' m0 m1 m2 m3 m5 id'))
    (rv : PySem.HandSPX.refsVE (.ref PE :: bmP) = true)
    (fP : PySem.W.findIn K (.ref PE) "__init__" = some (some (.builtin "ValueError.__init__")))
    (sa : PySem.W.findIn K (.ref C) "__setattr__" = some (some (.builtin "object.__setattr__")))
    (noN : PySem.W.findIn K (.ref C) fld = some none)
    (fi : PySem.W.findIn K (.ref C) "__init__" = some (some (.ref fI)))
    (tI : PySem.W.typeIn K (.ref fI) = some (.type "function"))
    (lI : K.lookup fI = some ⟨oc, od, .func (PySem.W.ksFn "__init__" qual (eA fld p1 p2) (eB fld msg j r0 r1 r2 r3 r4 r5 q1 q2 q3 q4) (eS fld) .none .none doc pm an (.ref cda) ct cc), osl⟩)
    (cI : PySem.W.codeIn K (.ref cda) qual = true)
    (lcd : K.lookup cda = some ⟨clcd, dcd, .fields vs, slcd⟩) (vf : vs[2]? = some (.str file tf)) (ff : ((prog.main.file : Str) == file) = true)
    (lcc : K.lookup cc = some ⟨clcc, dcc, .cell (some (.ref C)), slcc⟩)
    (ty : PySem.W.subIn K (.ref C) (.type "ValueError") = some true)
    (opq : PySem.W.nsIn K cStatics "thirdparty.any" = some none)
    (top : (prog.main.scope.names.lookup ("super" : Str)).isSome = false)
    (kC : PySem.W.keepIn K (.ref C) = true) (exC : PySem.W.subIn K (.ref C) (.type "BaseException") = some true) (tyC : PySem.W.typeIn K (.ref C) = some (.type "type")) (hdC : PySem.W.hasDictIn K C = true)
    (ga : PySem.W.findIn K (.ref C) "__getattribute__" = some (some (.builtin "BaseException.__getattribute__"))) (gg : PySem.W.findIn K (.ref C) "__getattr__" = some none)
    (ha : PySem.W.findIn K (.ref C) "__class__" = some (some (.builtin "object.__class__"))) (hn : PySem.W.specialIn K (.builtin "object.__class__") "__get__" = some (some (.builtin "getset_descriptor.__get__"))) (ht : PySem.W.takesIn K (.builtin "object.__class__") = some true) (hm : PySem.W.mroIn K C (.type "object") = some true)
    (eM' : eM msg j r0 r1 r2 r3 r4)
    (n1 : (fld == ("self" : Str)) = false) (n2 : (("__class__" : Str) == fld) = false) (n3 : (("super" : Str) == fld) = false) (n4 : (fld == ("__debug__" : Str)) = false)
    (bnd : ∀ (qual : Str) (p1 p2 : Pos) (body : List Stmt) (doc pm : Value) (an : Option Addr) (cd ct : Value) (cc : Addr) (a v : Value), bindArgs (PySem.W.ksFn "__init__" qual (eA fld p1 p2) body (eS fld) .none .none doc pm an cd ct cc) ⟨[a, v], []⟩ = pure [(("self" : Str), a), (fld, v)]) :
    EInf prog K mg x fld := by
  refine ⟨C, { cls := ⟨nm, q, N, bs, _, sn, sub, ab, col, dd, k0, k1, k2, k3, k5, lC, rv, along_of lP fP⟩, sa := sa, noN := noN, fn := ⟨fI, oc, od, osl, qual, doc, pm, an, cda, cc, ct, msg, j, p1, p2, r0, r1, r2, r3, r4, r5, q1, q2, q3, q4, eM', fi, tI, lI, cI, ⟨_, _, vs, _, file, tf, lcd, vf, ff⟩, ⟨_, _, _, lcc⟩⟩, ty := ty, opq := opq, top := top, ns := n1, nc := n2, nu := n3, nd := n4, bnd := bnd, gC := PySem.W.mg_of KX ns aC, kC := kC, exC := exC, tyC := tyC, hdC := hdC, ga := ga, gg := gg }, ⟨ga, gg, exC, hdC, ha, hn, ht, hm⟩⟩
/-- except D over an error of C -/
theorem exm_pair {K : PySem.W.Frag} {C D : Addr} {b : Bool} (h1 : PySem.W.subIn K (.ref D) (.type "BaseException") = some true) (h2 : PySem.W.isClsIn K D = true) (h3 : PySem.W.typeIn K (.ref D) = some (.type "type")) (h4 : PySem.W.subIn K (.ref C) (.ref D) = some b) : PySem.W.exmOne K (.ref C) (.ref D) = some b := by
  have e1 : (PySem.W.subIn K (.ref D) (.type "BaseException") == some true) = true := by rw [h1]; rfl
  have e2 : ((PySem.W.clsIn K D).isSome && PySem.W.typeIn K (.ref D) == some (.type "type")) = true := by
    have h2' : (PySem.W.clsIn K D).isSome = true := h2
    rw [h2', h3]
    rfl
  unfold PySem.W.exmOne PySem.W.kitCls
  rw [if_pos e1]
  simp only
  rw [if_pos e2]
  exact h4
theorem kit_pair {K : PySem.W.Frag} {C D : Addr} {b : Bool} (h2 : PySem.W.isClsIn K D = true) (h3 : PySem.W.typeIn K (.ref D) = some (.type "type")) (h4 : PySem.W.subIn K (.ref C) (.ref D) = some b) (hn : (Value.ref C == Value.ref D) = false) : PySem.W.kitOne K (.ref C) (.ref D) = some b := by
  have e2 : ((PySem.W.clsIn K D).isSome && PySem.W.typeIn K (.ref D) == some (.type "type")) = true := by
    have h2' : (PySem.W.clsIn K D).isSome = true := h2
    rw [h2', h3]
    rfl
  unfold PySem.W.kitOne PySem.W.kitCls
  rw [if_neg (by rw [hn]; exact Bool.false_ne_true)]
  simp only
  rw [if_pos e2]
  exact h4
theorem kit_bi {K : PySem.W.Frag} {C : Addr} {B : String} {b : Bool} (h2 : PySem.W.kitMeta B = true) (h4 : PySem.W.subIn K (.ref C) (.type B) = some b) : PySem.W.kitOne K (.ref C) (.type B) = some b := by
  unfold PySem.W.kitOne PySem.W.kitCls
  rw [if_neg (show ¬ ((Value.ref C == Value.type B) = true) from by simp)]
  simp only
  rw [if_pos h2]
  exact h4
theorem kinf_mk {K : PySem.W.Frag} {h : Heap} {mg : Str → Option Value} {x d : Str} {C D : Addr} {b : Bool} (KX : K.In h) (ns : h.Ns mainGlobals mg) (aC : PySem.W.nsIn K mainGlobals x = some (some (.ref C))) (aD : PySem.W.nsIn K mainGlobals d = some (some (.ref D)))
    (h2 : PySem.W.isClsIn K D = true) (h3 : PySem.W.typeIn K (.ref D) = some (.type "type")) (h4 : PySem.W.subIn K (.ref C) (.ref D) = some b) (hn : (Value.ref C == Value.ref D) = false) : KInf K mg x d b := by
  refine ⟨D, PySem.W.mg_of KX ns aD, fun C' e => ?_⟩
  rw [PySem.W.mg_of KX ns aC] at e
  cases e
  exact kit_pair h2 h3 h4 hn
theorem kinb_mk {K : PySem.W.Frag} {h : Heap} {mg : Str → Option Value} {x : Str} {B : String} {C : Addr} {b : Bool} (KX : K.In h) (ns : h.Ns mainGlobals mg) (aC : PySem.W.nsIn K mainGlobals x = some (some (.ref C))) (h2 : PySem.W.kitMeta B = true) (h4 : PySem.W.subIn K (.ref C) (.type B) = some b) : KInB K mg x B b := by
  refine ⟨fun C' e => ?_⟩
  rw [PySem.W.mg_of KX ns aC] at e
  cases e
  exact kit_bi h2 h4
/-- one row of the errors' table -/
structure XRow (K : PySem.W.Frag) (mg : Str → Option Value) (c d : Str) (b : Bool) : Prop where
  is : ∀ C D, mg c = some (.ref C) → mg d = some (.ref D) → PySem.W.exmOne K (.ref C) (.ref D) = some b
theorem xrow_mk {K : PySem.W.Frag} {h : Heap} {mg : Str → Option Value} {c d : Str} {C D : Addr} {b : Bool} (KX : K.In h) (ns : h.Ns mainGlobals mg) (aC : PySem.W.nsIn K mainGlobals c = some (some (.ref C))) (aD : PySem.W.nsIn K mainGlobals d = some (some (.ref D)))
    (h1 : PySem.W.subIn K (.ref D) (.type "BaseException") = some true) (h2 : PySem.W.isClsIn K D = true) (h3 : PySem.W.typeIn K (.ref D) = some (.type "type")) (h4 : PySem.W.subIn K (.ref C) (.ref D) = some b) : XRow K mg c d b := by
  refine ⟨fun C' D' e1 e2 => ?_⟩
  rw [PySem.W.mg_of KX ns aC] at e1
  rw [PySem.W.mg_of KX ns aD] at e2
  cases e1
  cases e2
  exact exm_pair h1 h2 h3 h4
/-! constants of the top -/
def scalV : Value → Option (MV × V)
  | .none => some (.non, .non)
  | .bool b => some (.bl b, .bl b)
  | .int i _ => some (.int i, .int i)
  | .str x _ => some (.str x, .str x)
  | _ => none
def scalVs : List Value → Option (List MV × List V)
  | [] => some ([], [])
  | v :: r => match scalV v with
    | some p => match scalVs r with
      | some q => some (p.1 :: q.1, p.2 :: q.2)
      | none => none
    | none => none
theorem scal_rel {K : PySem.W.Frag} {mg : Str → Option Value} {F : Hp} {ρ : List Addr} {u : Value} {p : MV × V} (e : scalV u = some p) : RelV p.2 u ∧ VR K mg F ρ p.1 p.2 := by
  cases u with
  | none => cases e; exact ⟨rfl, .non⟩
  | bool b => cases e; exact ⟨rfl, .bl b⟩
  | int i t => cases e; exact ⟨⟨t, rfl⟩, .int i⟩
  | str x t => cases e; exact ⟨⟨t, rfl⟩, .str x⟩
  | _ => cases e
theorem scals_rel {K : PySem.W.Frag} {mg : Str → Option Value} {F : Hp} {ρ : List Addr} : ∀ {us : List Value} {p : List MV × List V}, scalVs us = some p → Vals p.2 us ∧ VRs K mg F ρ p.1 p.2
  | [], _, e => by cases e; exact ⟨.nil, .nil⟩
  | u :: r, p, e => by
    simp only [scalVs] at e
    split at e
    · rename_i a ha
      split at e
      · rename_i b hb
        cases e
        obtain ⟨h1, h2⟩ := scal_rel (K := K) (mg := mg) (F := F) (ρ := ρ) ha
        obtain ⟨h3, h4⟩ := scals_rel (K := K) (mg := mg) (F := F) (ρ := ρ) hb
        exact ⟨.cons h1 h3, .cons h2 h4⟩
      · cases e
    · cases e
theorem gv_tup {K : PySem.W.Frag} {h : Heap} {mg : Str → Option Value} {x : Str} {a : Addr} {dd : Option Addr} {its : Array Value} {n : Nat} {sl : Array (Option Value)} {xs : List MV} {ys : List V} (KX : K.In h) (ns : h.Ns mainGlobals mg) (aC : PySem.W.nsIn K mainGlobals x = some (some (.ref a)))
    (l : K.lookup a = some ⟨.type "tuple", dd, .seq its n, sl⟩) (e : scalVs its.toList = some (xs, ys)) (hz : its.size ≤ sizeLine) : Gv K mg x (.tup xs) :=
  ⟨.ref a, .ref a, PySem.W.mg_of KX ns aC, rfl, fun W => .tup (.inr ⟨_, its, n, l, rfl, rfl, hz, (scals_rel (K := K) (mg := mg) (F := W.F) (ρ := W.ρ) e).1⟩) (scals_rel e).2⟩
end M
set_option Elab.async false
set_option linter.all false
set_option maxRecDepth 100000
set_option maxHeartbeats 4000000
namespace G
open PySem PySem.Spec PyProof.Rows L2
/-! ### an error held as a value: its fields, its class -/
section
variable {X : Cx} {a : Expr} {ta : TE} {pos : Pos} {n : Str}
theorem er_inst {prog : Program} {w : World} {H : Hp} {h : Heap} {e C d : Addr} {gs : List (Str × V)} (hok : HOk prog w H h) (h1 : H e = some (erP C e d)) (h2 : H d = some (.xd gs)) :
    ∃ (od ox : Obj) (mA : Str → Option Value), PySem.W.InstAt h e ox C (some od) ∧ (∀ f, RelO (gs.lookup f) (mA f)) ∧ ∀ name, PySem.W.lookIn name od = some (mA name) := by
  obtain ⟨⟨t1, g1⟩, _, _⟩ := (show ObjOk prog w H h e (erP C e d) from hok e _ h1)
  obtain ⟨mA, hns, hr⟩ := (show ObjOk prog w H h d (.xd gs) from hok d _ h2)
  obtain ⟨od, ho, hl⟩ := lookIn_ns hns
  exact ⟨od, _, mA, ⟨g1, rfl, rfl, ho⟩, hr, hl⟩
/-- e.f of an error: all of the classes in the table know no f of their own -/
theorem pe_erF {T : Addr → Prop} (hT : ∀ C, T C → XfC X.K C ∧ PySem.W.findIn X.K (.ref C) n = some none) (ha : PE X a ta) (hb : attributeBase a n X.env (eval a X.env) = eval a X.env := by rfl) :
    PE X (.Attribute a n pos) (fun σ H Q => ta σ H fun x H1 => ∃ e C d gs v, x = .ref e ∧ T C ∧ H1 e = some (erP C e d) ∧ H1 d = some (.xd gs) ∧ gs.lookup n = some v ∧ Q v H1) := by
  constructor
  intro pins s σ H Q I h
  refine attr_of hb (thn (ha.run pins s σ H _ I h) ?_)
  rintro u s1 ⟨x, H1, I1, rx, e, C, d, gs, v, rfl, tc, h1, h2, l, q⟩
  cases rx
  obtain ⟨xf, hno⟩ := hT C tc
  obtain ⟨od, ox, mA, J, hr, hl⟩ := er_inst I1.hok h1 h2
  obtain ⟨u, hu, ru⟩ := RelO.some_of (by rw [← l]; exact hr n)
  exact PySem.HandSPX.exc_get I1.kIn J xf.ga xf.gg xf.exC (PySem.W.findObj_own xf.hdC hno rfl (by rw [hl n, hu])) (handed_of ru) ⟨v, H1, I1.tok (s1.toks + 1), ru, q⟩
/-- isinstance(e, c) -/
theorem call_isV : CallR X (.builtin "isinstance") (fun xs H Q => ∃ (e C d : Addr) (gs : List (Str × V)) (c : V) (cu : Value) (b : Bool), xs = [.ref e, c] ∧ H e = some (erP C e d) ∧ H d = some (.xd gs) ∧ ExcC X.K C ∧ (∀ u, RelV c u → u = cu) ∧ PySem.W.kitOne X.K (.ref C) cu = some b ∧ Q (.bl b) H) := by
  intro pins s σ H xs us Q I r h
  obtain ⟨e, C, d, gs, c, cu, b, rfl, h1, h2, ec, hc, hk, q⟩ := h
  cases r with
  | cons rx rr =>
    cases rr with
    | cons rt rr =>
      cases rr
      cases rx
      obtain rfl := hc _ rt
      obtain ⟨od, ox, mA, J, hr, hl⟩ := er_inst I.hok h1 h2
      exact PySem.W.kia_one (err_kit ec) I.kIn ⟨od, J⟩ hk (fun z => nomatch z) fun tk => ⟨.bl b, H, I.kept (t' := tk) fun _ _ z => z, rfl, q⟩
end
end G
namespace M
open PySem PySem.Spec L2 G
structure EInfG (prog : Program) (K : PySem.W.Frag) (mg : Str → Option Value) (x : Str) (flds : List Str) : Prop where
  ex : ∃ C, ErrNG prog K mg x flds C ∧ ExcC K C
/-- C(e, ..) as a value -/
def mMkE (x : Str) (flds : List Str) (ma : MA) : ME := fun s h => (ma s h).bind fun vs h1 => if vs.length = flds.length then .ok (.er x (flds.zip vs)) h1 else .bad
/-- raise C(e, ..) -/
def mRaiseG (x : Str) (flds : List Str) (ma : MA) : MS := fun s h => lift (ma s h) s fun vs h1 => if vs.length = flds.length then .exc x (flds.zip vs) s h1 else .bad
theorem xfc_ofG {prog : Program} {K : PySem.W.Frag} {mg : Str → Option Value} {x : Str} {flds : List Str} {C : Addr} (T : ErrNG prog K mg x flds C) : XfC K C := ⟨T.ga, T.gg, T.exC, T.hdC⟩
/-- the table of own errors: their names and their fields -/
structure Ers (prog : Program) (K : PySem.W.Frag) (mg : Str → Option Value) (tab : List (Str × List Str)) : Prop where
  of : ∀ c flds, tab.lookup c = some flds → EInfG prog K mg c flds
def hasF (tab : List (Str × List Str)) (c n : Str) : Bool := match tab.lookup c with
  | some fl => decide (n ∈ fl)
  | none => false
/-- e.f, e an error that is held as a value -/
def erF (tab : List (Str × List Str)) (n : Str) (v : MV) (h : MH) : R MV := match v with
  | .er c fs => if hasF tab c n = true then opR (fs.lookup n) h else .bad
  | _ => .bad
def mErF (tab : List (Str × List Str)) (n : Str) (ma : ME) : ME := fun s h => (ma s h).bind (erF tab n)
/-- isinstance(e, D) by tables -/
structure KTab (K : PySem.W.Frag) (mg : Str → Option Value) (kin : Str → Str → Option Bool) : Prop where
  is : ∀ c D b C E, kin c D = some b → mg c = some (.ref C) → mg D = some (.ref E) → PySem.W.kitOne K (.ref C) (.ref E) = some b
structure KTaB (K : PySem.W.Frag) (mg : Str → Option Value) (kin : Str → String → Option Bool) : Prop where
  is : ∀ c D b C, kin c D = some b → mg c = some (.ref C) → PySem.W.kitOne K (.ref C) (.type D) = some b
def isE {α : Type} (tab : List (Str × List Str)) (kin : Str → α → Option Bool) (D : α) (v : MV) (h : MH) : R MV := match v with
  | .er c _ => if (tab.lookup c).isSome = true then (match kin c D with
    | some b => .ok (.bl b) h
    | none => .bad) else .bad
  | _ => .bad
def mIsE {α : Type} (tab : List (Str × List Str)) (kin : Str → α → Option Bool) (D : α) (ma : ME) : ME := fun s h => (ma s h).bind (isE tab kin D)
section
variable {X : Cx} {ei : EI} {Wx : WX} {a b : Expr} {as : List Expr} {pos pos2 p : Pos} {mas : MA} {ma mb : ME} {x : Str} {flds : List Str} {k : Nat}
theorem m_mkE (T : EInfG X.prog X.K X.mg x flds) (hms : X.mg "super" = none) (hr : Room k X.A) (hk : 1 ≤ k) (hg : Gl X x) (ha : PA X (a :: as) (tA X.K X.mg ei Wx mas)) (hdb : (x == ("__debug__" : Str)) = false := by decide)
    (he : starEach (a :: as) X.env = (false, eval a X.env) :: starEach as X.env := by rfl) (hpl : (backTo pos (starEach as X.env)).any (·.1) = false := by rfl) : PE X (.Call (.Name x p) (a :: as) [] pos) (tE X.K X.mg ei Wx (mMkE x flds mas)) := by
  obtain ⟨C, T, _⟩ := T.ex
  refine PEi (pe_errG T hms hr hk hg ha hdb he hpl) fun σ H Q t => ?_
  obtain ⟨W, s, h, hr, sr, t⟩ := t
  refine (tG_bind (rel1 := relVs X.K X.mg) hr sr t).post ?_
  rintro xs H1 ⟨W1, vs, h1, e1, hr1, sr1, vr, t1⟩
  split at t1
  · rename_i hl
    refine ⟨by rw [← vr.length]; exact hl, fun e d he hd hne => ?_⟩
    obtain ⟨hr2, ex2⟩ := hr1.newF (u := erP C e d) he
    have hd2 : upd H1 e (erP C e d) d = none := by
      rw [upd_ne hne]
      exact hd
    obtain ⟨hr3, ex3⟩ := hr2.newF (u := .xd (flds.zip xs)) hd2
    refine t1 _ _ (.ref e) (ex2.trans ex3) hr3 (.er (d := d) T.gC ?_ upd_same (FR.zip ((vr.to ex2).to ex3)))
    show upd (upd W1.F e (erP C e d)) d (.xd (flds.zip xs)) e = _
    rw [upd_ne hne.symm, upd_same]
  · exact t1.elim
theorem m_raiseG (T : EInfG X.prog X.K X.mg x flds) (hc : X.calm = true) (hms : X.mg "super" = none) (hr : Room k X.A) (hk : 1 ≤ k) (tk : Takes X Wx) (hg : Gl X x) (ha : PA X (a :: as) (tA X.K X.mg ei Wx mas)) (hdb : (x == ("__debug__" : Str)) = false := by decide)
    (he : starEach (a :: as) X.env = (false, eval a X.env) :: starEach as X.env := by rfl) (hpl : (backTo pos (starEach as X.env)).any (·.1) = false := by rfl) :
    PS X (.Raise (some (.Call (.Name x p) (a :: as) [] pos)) none pos2) (tS X.K X.mg ei Wx (mRaiseG x flds mas)) := by
  obtain ⟨C, T, _⟩ := T.ex
  refine PSi (ps_raise hc tk (pmk_errG T hms hr hk hg ha hdb he hpl)) fun D σ H t => ?_
  obtain ⟨W, s, h, hr, sr, t⟩ := t
  show tA X.K X.mg ei Wx mas σ H _
  refine (tG_lift (rel1 := relVs X.K X.mg) hr sr t).post ?_
  rintro y H1 ⟨W1, v, h1, e1, hr1, sr1, vr, t1⟩
  split at t1
  · rename_i hl
    refine ⟨by rw [← vr.length]; exact hl, fun d hd => ?_⟩
    obtain ⟨q1, q2⟩ := hr1.newF (u := .xd (flds.zip y)) hd
    exact t1 _ σ _ C d _ q2 q1 (sr1.to q2) T.gC upd_same (FR.zip (vr.to q2))
  · exact t1.elim
theorem m_erF {tab : List (Str × List Str)} {n : Str} (T : Ers X.prog X.K X.mg tab) (ha : PE X a (tE X.K X.mg ei Wx ma)) (hb : attributeBase a n X.env (eval a X.env) = eval a X.env := by rfl) : PE X (.Attribute a n pos) (tE X.K X.mg ei Wx (mErF tab n ma)) := by
  refine PEi (pe_erF (T := fun C => ∃ c fl, X.mg c = some (.ref C) ∧ tab.lookup c = some fl ∧ n ∈ fl) ?_ ha hb) fun σ H Q t => ?_
  · rintro C ⟨c, fl, h1, h2, h3⟩
    obtain ⟨C', T, _⟩ := (T.of c fl h2).ex
    have e := T.gC
    rw [h1] at e
    cases e
    exact ⟨xfc_ofG T, T.noN n h3⟩
  obtain ⟨W, s, h, hr, sr, t⟩ := t
  refine (tG_bind (rel1 := relV X.K X.mg) hr sr t).post ?_
  rintro y H1 ⟨W1, v, h1, e1, hr1, sr1, vr, t1⟩
  cases vr with
  | @er c C e d fs gs q1 q2 q3 q4 =>
    simp only [erF] at t1
    split at t1
    · rename_i hf
      unfold hasF at hf
      split at hf
      · rename_i fl hl
        rcases q4.look (f := n) with ⟨v, y, z1, z2, z3⟩ | ⟨z1, z2⟩
        · rw [z1] at t1
          exact ⟨e, C, d, gs, y, rfl, ⟨c, fl, q1, hl, of_decide_eq_true hf⟩, hr1.fz _ _ q2, hr1.fz _ _ q3, z2, t1 W1 H1 _ (Ex.refl _ _) hr1 z3⟩
        · rw [z1] at t1
          exact t1.elim
      · cases hf
    · exact t1.elim
  | _ => exact t1.elim
theorem isE_go {α : Type} {tab : List (Str × List Str)} {kin : Str → α → Option Bool} {D : α} {σ : L2.St} {H1 : Hp} {Q : VK} {W1 : Wd} {v : MV} {h1 : MH} {y c : V} {cu : Value} (T : Ers X.prog X.K X.mg tab) (hc : ∀ u, RelV c u → u = cu) (hk : ∀ c b C, kin c D = some b → X.mg c = some (.ref C) → PySem.W.kitOne X.K (.ref C) cu = some b) (hr1 : Hr X.K X.mg W1 h1 H1) (vr : VR X.K X.mg W1.F W1.ρ v y)
    (t1 : AfR X.K X.mg Wx (relV X.K X.mg) W1 σ H1 Q (isE tab kin D v h1)) : ∃ (e C d : Addr) (gs : List (Str × V)) (c' : V) (cu : Value) (b : Bool), [y, c] = [.ref e, c'] ∧ H1 e = some (erP C e d) ∧ H1 d = some (.xd gs) ∧ ExcC X.K C ∧ (∀ u, RelV c' u → u = cu) ∧ PySem.W.kitOne X.K (.ref C) cu = some b ∧ Q (.bl b) H1 := by
  cases vr with
  | @er c' C e d fs gs q1 q2 q3 q4 =>
    simp only [isE] at t1
    split at t1
    · rename_i hl
      obtain ⟨fl, hl⟩ := Option.isSome_iff_exists.mp hl
      obtain ⟨C', T, ec⟩ := (T.of c' fl hl).ex
      have e := T.gC
      rw [q1] at e
      cases e
      split at t1
      · rename_i b hb
        exact ⟨e, C, d, gs, c, cu, b, rfl, hr1.fz _ _ q2, hr1.fz _ _ q3, ec, hc, hk c' b C hb q1, t1 W1 H1 _ (Ex.refl _ _) hr1 (.bl b)⟩
      · exact t1.elim
    · exact t1.elim
  | _ => exact t1.elim
theorem m_isEO {tab : List (Str × List Str)} {kin : Str → Str → Option Bool} {D : Str} {p0 p1 : Pos} (T : Ers X.prog X.K X.mg tab) (k : KTab X.K X.mg kin) (kD : ∃ E, X.mg D = some (.ref E)) (ha : PE X a (tE X.K X.mg ei Wx ma))
    (hg : Gl X "isinstance") (hm : X.mg "isinstance" = none) (hgD : Gl X D) (hdD : (D == ("__debug__" : Str)) = false)
    (hs1 : starEach [a, .Name D p1] X.env = (false, eval a X.env) :: starEach [.Name D p1] X.env := by rfl) (hs2 : starEach [.Name D p1] X.env = (false, eval (.Name D p1) X.env) :: starEach [] X.env := by rfl) (hpl : (backTo pos (starEach [.Name D p1] X.env)).any (·.1) = false := by rfl) :
    PE X (.Call (.Name "isinstance" p0) [a, .Name D p1] [] pos) (tE X.K X.mg ei Wx (mIsE tab kin D ma)) := by
  obtain ⟨E, kE⟩ := kD
  refine PEi (pe_callB call_isV hg hm (by decide +kernel) (pa_cons ha (pa_cons (pe_glob (v := .ref E) hgD kE rfl hdD) pa_nil hs2) hs1) (by decide) (by decide) hs1 hpl) fun σ H Q t => ?_
  obtain ⟨W, s, h, hr, sr, t⟩ := t
  refine (tG_bind (rel1 := relV X.K X.mg) hr sr t).post ?_
  rintro y H1 ⟨W1, v, h1, e1, hr1, sr1, vr, t1⟩
  exact isE_go (c := .ref E) (cu := .ref E) T (fun u h => h) (fun c b C z1 z2 => k.is c D b C E z1 z2 kE) hr1 vr t1
theorem m_isEB {tab : List (Str × List Str)} {kin : Str → String → Option Bool} {D : Str} {B : String} {p0 p1 : Pos} (T : Ers X.prog X.K X.mg tab) (k : KTaB X.K X.mg kin) (ha : PE X a (tE X.K X.mg ei Wx ma))
    (hg : Gl X "isinstance") (hm : X.mg "isinstance" = none) (hgD : Gl X D) (hmD : X.mg D = none) (hvD : bootBuiltins D = some (.type B)) (hnD : D ≠ "__name__") (hdD : (D == ("__debug__" : Str)) = false)
    (hs1 : starEach [a, .Name D p1] X.env = (false, eval a X.env) :: starEach [.Name D p1] X.env := by rfl) (hs2 : starEach [.Name D p1] X.env = (false, eval (.Name D p1) X.env) :: starEach [] X.env := by rfl) (hpl : (backTo pos (starEach [.Name D p1] X.env)).any (·.1) = false := by rfl) :
    PE X (.Call (.Name "isinstance" p0) [a, .Name D p1] [] pos) (tE X.K X.mg ei Wx (mIsE tab kin B ma)) := by
  refine PEi (pe_callB call_isV hg hm (by decide +kernel) (pa_cons ha (pa_cons (pe_bltn (v := .ty B) hgD hmD hvD rfl hnD hdD) pa_nil hs2) hs1) (by decide) (by decide) hs1 hpl) fun σ H Q t => ?_
  obtain ⟨W, s, h, hr, sr, t⟩ := t
  refine (tG_bind (rel1 := relV X.K X.mg) hr sr t).post ?_
  rintro y H1 ⟨W1, v, h1, e1, hr1, sr1, vr, t1⟩
  exact isE_go (c := .ty B) (cu := .type B) T (fun u h => h) (fun c b C z1 z2 => k.is c B b C z1 z2) hr1 vr t1
/-! the error that a suite holds -/
theorem m_errFG {i : Nat} {e : Addr} {oe : Obj} {cls : Value} {d : Option Addr} {pn : List (Addr × Obj)} {n f : Str} (T : EInfG X.prog X.K X.mg x flds) (hf' : f ∈ flds) (hz : Zc cls d oe) (hf : ∃ vs, oe.data = .fields vs) (he : PE (X.suite e ((e, oe) :: pn)) (.Name n p) (tVar i))
    (hb : attributeBase (.Name n p) f X.env (eval (.Name n p) X.env) = eval (.Name n p) X.env := by rfl) : PE (X.suite e ((e, oe) :: pn)) (.Attribute (.Name n p) f pos) (tE X.K X.mg (some (e, cls, d)) Wx (mErrF i x f)) := by
  obtain ⟨C, T, _⟩ := T.ex
  refine PEi (pe_xf (xfc_ofG T) (T.noN f hf') hz hf he hb) fun σ H Q t => ?_
  obtain ⟨W, s, h, hr, sr, t⟩ := t
  unfold mErrF at t
  split at t
  · rename_i c' fs hs
    split at t
    · rename_i hc
      subst hc
      obtain ⟨q1, q2, dd, gs, q3, q4, q5⟩ := err_at sr hs T.gC
      rcases q5.look (f := f) with ⟨v, y, z1, z2, z3⟩ | ⟨z1, z2⟩
      · rw [z1] at t
        exact ⟨_, q1, rfl, q2, dd, gs, y, q3, hr.fz _ _ q4, z2, t W H _ (Ex.refl _ _) hr z3⟩
      · rw [z1] at t
        exact t.elim
    · exact t.elim
  · exact t.elim
theorem m_errIsG {i : Nat} {e : Addr} {oe : Obj} {cls : Value} {d : Option Addr} {pn : List (Addr × Obj)} {n : Str} {r : Bool} {cv : V} {cu : Value} (T : EInfG X.prog X.K X.mg x flds) (hz : Zc cls d oe) (hf : ∃ vs, oe.data = .fields vs) (he : PE (X.suite e ((e, oe) :: pn)) (.Name n p) (tVar i))
    (hc : PE (X.suite e ((e, oe) :: pn)) b (tC cv)) (hu : ∀ u, RelV cv u → u = cu) (hk : ∀ C, X.mg x = some (.ref C) → PySem.W.kitOne X.K (.ref C) cu = some r) {p0 : Pos} (hg : Gl X "isinstance") (hm : X.mg "isinstance" = none)
    (hs1 : starEach [.Name n p, b] X.env = (false, eval (.Name n p) X.env) :: starEach [b] X.env := by rfl) (hs2 : starEach [b] X.env = (false, eval b X.env) :: starEach [] X.env := by rfl) (hpl : (backTo pos (starEach [b] X.env)).any (·.1) = false := by rfl) :
    PE (X.suite e ((e, oe) :: pn)) (.Call (.Name "isinstance" p0) [.Name n p, b] [] pos) (tE X.K X.mg (some (e, cls, d)) Wx (mErrIs i x r)) := by
  obtain ⟨C, T, I⟩ := T.ex
  refine PEi (pe_callB (call_isD (X := X) (dd := 0) I hz hf) hg hm (by decide +kernel) (pa_cons he (pa_cons hc pa_nil hs2) hs1) (by decide) (by decide) hs1 hpl) fun σ H Q t => ?_
  obtain ⟨W, s, h, hr, sr, t⟩ := t
  unfold mErrIs at t
  split at t
  · rename_i c' fs hs
    split at t
    · rename_i hc
      subst hc
      obtain ⟨q1, q2, dd, gs, q3, q4, q5⟩ := err_at sr hs T.gC
      exact ⟨_, q1, q2, dd, gs, q3, hr.fz _ _ q4, cv, cu, r, rfl, hu, hk C T.gC, t W H _ (Ex.refl _ _) hr (.bl r)⟩
    · exact t.elim
  · exact t.elim
theorem m_errIsOG {i : Nat} {e : Addr} {oe : Obj} {cls : Value} {d : Option Addr} {pn : List (Addr × Obj)} {n D : Str} {r : Bool} {p0 p1 : Pos} (T : EInfG X.prog X.K X.mg x flds) (k : KInf X.K X.mg x D r) (hz : Zc cls d oe) (hf : ∃ vs, oe.data = .fields vs) (he : PE (X.suite e ((e, oe) :: pn)) (.Name n p) (tVar i))
    (hg : Gl X "isinstance") (hm : X.mg "isinstance" = none) (hgD : Gl (X.suite e ((e, oe) :: pn)) D) (hdD : (D == ("__debug__" : Str)) = false)
    (hs1 : starEach [.Name n p, .Name D p1] X.env = (false, eval (.Name n p) X.env) :: starEach [.Name D p1] X.env := by rfl) (hs2 : starEach [.Name D p1] X.env = (false, eval (.Name D p1) X.env) :: starEach [] X.env := by rfl) (hpl : (backTo pos (starEach [.Name D p1] X.env)).any (·.1) = false := by rfl) :
    PE (X.suite e ((e, oe) :: pn)) (.Call (.Name "isinstance" p0) [.Name n p, .Name D p1] [] pos) (tE X.K X.mg (some (e, cls, d)) Wx (mErrIs i x r)) := by
  obtain ⟨E, k1, k2⟩ := k.ex
  exact m_errIsG (cv := .ref E) (cu := .ref E) T hz hf he (pe_glob hgD k1 rfl hdD) (fun u h => h) k2 hg hm hs1 hs2 hpl
theorem m_errIsBG {i : Nat} {e : Addr} {oe : Obj} {cls : Value} {d : Option Addr} {pn : List (Addr × Obj)} {n D : Str} {B : String} {r : Bool} {p0 p1 : Pos} (T : EInfG X.prog X.K X.mg x flds) (k : KInB X.K X.mg x B r) (hz : Zc cls d oe) (hf : ∃ vs, oe.data = .fields vs) (he : PE (X.suite e ((e, oe) :: pn)) (.Name n p) (tVar i))
    (hg : Gl X "isinstance") (hm : X.mg "isinstance" = none) (hgD : Gl (X.suite e ((e, oe) :: pn)) D) (hmD : X.mg D = none) (hvD : bootBuiltins D = some (.type B)) (hnD : D ≠ "__name__") (hdD : (D == ("__debug__" : Str)) = false)
    (hs1 : starEach [.Name n p, .Name D p1] X.env = (false, eval (.Name n p) X.env) :: starEach [.Name D p1] X.env := by rfl) (hs2 : starEach [.Name D p1] X.env = (false, eval (.Name D p1) X.env) :: starEach [] X.env := by rfl) (hpl : (backTo pos (starEach [.Name D p1] X.env)).any (·.1) = false := by rfl) :
    PE (X.suite e ((e, oe) :: pn)) (.Call (.Name "isinstance" p0) [.Name n p, .Name D p1] [] pos) (tE X.K X.mg (some (e, cls, d)) Wx (mErrIs i x r)) :=
  m_errIsG (cv := .ty B) (cu := .type B) T hz hf he (pe_bltn (v := .ty B) hgD hmD hvD rfl hnD hdD) (fun u h => h) k.is hg hm hs1 hs2 hpl
theorem clm_consG {Y : Cx} {n : Str} {i : Nat} {p1 p2 : Pos} {hs : List ExceptHandler} {cs : List MCl} {st : Stmt} {sts : List Stmt} {m : MS} (T : EInfG Y.prog Y.K Y.mg x flds) (hi : Y.N[i]? = some n) (hk : Y.env.kindOf n = some .local) (hg : Gl Y x) (hd : (x == ("__debug__" : Str)) = false)
    (hb : ∀ (e : Addr) (oe : Obj) (cls : Value) (d : Option Addr) (pn : List (Addr × Obj)), Zc cls d oe → (∃ fv, oe.data = .fields fv) → PSs (Y.suite e ((e, oe) :: pn)) (st :: sts) (tS Y.K Y.mg (some (e, cls, d)) WN m)) (more : ClM Y ei hs cs) :
    ClM Y ei (.ExceptHandler (some (.Name x p1)) (some n) (st :: sts) p2 :: hs) ((x, i, m) :: cs) := by
  obtain ⟨C, T, _⟩ := T.ex
  exact .cons hi hk hg hd T.gC hb more
end
end M
set_option Elab.async false
set_option linter.all false
set_option maxRecDepth 100000
set_option maxHeartbeats 4000000
namespace M
open PySem PySem.Spec L2 G
/-! ### facts of the written part about own errors -/
/-- a built-in error that own ones are made over -/
structure EB (B newId initId : String) (bmB : List Value) : Prop where
  FB : ExcBaseFacts B newId initId bmB
  FK : PySem.W.KxsFacts B initId
  pass : ∀ self, refuseLoop self "__setattr__" bmB = pure ()
  qi : initId.startsWith "lifetime." = false
theorem eb_VE : EB "ValueError" "ValueError.__new__" "ValueError.__init__" [.type "ValueError", .type "Exception", .type "BaseException", .type "object"] := ⟨PySem.F.excBase_ValueError, PySem.W.kxs_ValueError, PySem.F.store_ValueError.passes, by decide +kernel⟩
theorem eb_LE : EB "LookupError" "LookupError.__new__" "LookupError.__init__" [.type "LookupError", .type "Exception", .type "BaseException", .type "object"] := ⟨PySem.F.excBase_LookupError, PySem.W.kxs_LookupError, PySem.F.store_LookupError.passes, by decide +kernel⟩
inductive AllF (P : Str → Prop) : List Str → Prop
  | nil : AllF P []
  | cons {f : Str} {fs : List Str} : P f → AllF P fs → AllF P (f :: fs)
theorem AllF.of {P : Str → Prop} : ∀ {fs : List Str}, AllF P fs → ∀ f ∈ fs, P f
  | _, .nil, f, m => by cases m
  | _, .cons h t, f, m => by
    rcases List.mem_cons.mp m with rfl | m
    · exact h
    · exact t.of f m
theorem einfG_mk {prog : Program} {K : PySem.W.Frag} {h : Heap} {mg : Str → Option Value} {x : Str} {flds : List Str} {C PE fI cda cc : Addr} {B newId initId : String} {bmB : List Value} (b : EB B newId initId bmB) (KX : K.In h) (ns : h.Ns mainGlobals mg)
    {nm q nm' q' qual file : Str} {N N' : Addr} {bs bs' sub sub' : List Value} {hd' ab ab' : Bool} {sn sn' : List Str} {col col' : Option Bool} {dd dd' od an dcd dcc : Option Addr} {k0 k1 k2 k3 k5 m0 m1 m2 m3 m5 : Option Value} {id' : String} {oc doc pm ct clcd clcc : Value} {osl slcd slcc : Array (Option Value)} {vs : Array Value} {tf : Tok} {params : Arguments} {body : List Stmt} {scope : Scope}
    (aC : PySem.W.nsIn K mainGlobals x = some (some (.ref C)))
    (lC : K.lookup C = some (excClassObj nm q C N bs (.ref PE :: bmB) true sn sub ab col dd k0 k1 k2 k3 k5 newId))
    (lP : K.lookup PE = some (excClassObj nm' q' PE N' bs' bmB hd' sn' sub' ab' col' dd' m0 m1 m2 m3 m5 id'))
    (fP : PySem.W.findIn K (.ref PE) "__init__" = some (some (.builtin initId)))
    (sa : PySem.W.findIn K (.ref C) "__setattr__" = some (some (.builtin "object.__setattr__")))
    (noN : AllF (fun f => PySem.W.findIn K (.ref C) f = some none) flds)
    (fi : PySem.W.findIn K (.ref C) "__init__" = some (some (.ref fI)))
    (tI : PySem.W.typeIn K (.ref fI) = some (.type "function"))
    (lI : K.lookup fI = some ⟨oc, od, .func (PySem.W.ksFn "__init__" qual params body scope .none .none doc pm an (.ref cda) ct cc), osl⟩)
    (cI : PySem.W.codeIn K (.ref cda) qual = true)
    (lcd : K.lookup cda = some ⟨clcd, dcd, .fields vs, slcd⟩) (vf : vs[2]? = some (.str file tf)) (ff : ((prog.main.file : Str) == file) = true)
    (lcc : K.lookup cc = some ⟨clcc, dcc, .cell (some (.ref C)), slcc⟩)
    (hP : ∃ p1 ps, ps.length = flds.length ∧ params = eArgs flds p1 ps)
    (hB : ∃ msg j r0 r1 r2 r3 r4 r5 qs, qs.length = flds.length ∧ body = eBody flds msg j r0 r1 r2 r3 r4 r5 qs ∧ eM msg j r0 r1 r2 r3 r4)
    (hS : scope = eScope flds)
    (bnd : ∀ (a : Value) (us : List Value), us.length = flds.length → bindArgs (PySem.W.ksFn "__init__" qual params body scope .none .none doc pm an (.ref cda) ct cc) ⟨a :: us, []⟩ = pure ((("self" : Str), a) :: flds.zip us))
    (ty : PySem.W.subIn K (.ref C) (.type B) = some true)
    (opq : PySem.W.nsIn K cStatics "thirdparty.any" = some none)
    (top : (prog.main.scope.names.lookup ("super" : Str)).isSome = false)
    (kC : PySem.W.keepIn K (.ref C) = true) (exC : PySem.W.subIn K (.ref C) (.type "BaseException") = some true) (tyC : PySem.W.typeIn K (.ref C) = some (.type "type")) (hdC : PySem.W.hasDictIn K C = true)
    (ga : PySem.W.findIn K (.ref C) "__getattribute__" = some (some (.builtin "BaseException.__getattribute__"))) (gg : PySem.W.findIn K (.ref C) "__getattr__" = some none)
    (ha : PySem.W.findIn K (.ref C) "__class__" = some (some (.builtin "object.__class__"))) (hn : PySem.W.specialIn K (.builtin "object.__class__") "__get__" = some (some (.builtin "getset_descriptor.__get__"))) (ht : PySem.W.takesIn K (.builtin "object.__class__") = some true) (hm : PySem.W.mroIn K C (.type "object") = some true)
    (nd : (("self" : Str) :: "__class__" :: "super" :: flds).Nodup ∧ flds.length ≤ 100 ∧ ("__debug__" : Str) ∉ flds ∧ flds ≠ []) :
    EInfG prog K mg x flds := by
  obtain ⟨p1, ps, hps, rfl⟩ := hP
  obtain ⟨msg, j, r0, r1, r2, r3, r4, r5, qs, hqs, rfl, hM⟩ := hB
  subst hS
  refine ⟨C, { cls := ⟨B, newId, initId, bmB, b.FB, b.FK, b.pass, b.qi, ty, nm, q, N, bs, [PE], sn, sub, ab, col, dd, k0, k1, k2, k3, k5, lC, along_of lP fP⟩, sa := sa, noN := noN.of, hob := hm, fn := ⟨fI, oc, od, osl, qual, doc, pm, an, cda, cc, ct, msg, j, p1, ps, r0, r1, r2, r3, r4, r5, qs, hps, hqs, hM, fi, tI, lI, cI, ⟨_, _, vs, _, file, tf, lcd, vf, ff⟩, ⟨_, _, _, lcc⟩, bnd⟩, opq := opq, top := top, nd := nd.1, few := nd.2.1, db := nd.2.2.1, ne := nd.2.2.2, gC := PySem.W.mg_of KX ns aC, kC := kC, exC := exC, tyC := tyC, hdC := hdC, ga := ga, gg := gg }, ⟨ga, gg, exC, hdC, ha, hn, ht, hm⟩⟩
inductive ErsL (prog : Program) (K : PySem.W.Frag) (mg : Str → Option Value) : List (Str × List Str) → Prop
  | nil : ErsL prog K mg []
  | cons {c : Str} {fl : List Str} {tab : List (Str × List Str)} : EInfG prog K mg c fl → ErsL prog K mg tab → ErsL prog K mg ((c, fl) :: tab)
theorem ErsL.ers {prog : Program} {K : PySem.W.Frag} {mg : Str → Option Value} : ∀ {tab : List (Str × List Str)}, ErsL prog K mg tab → Ers prog K mg tab
  | _, .nil => ⟨fun _ _ e => by cases e⟩
  | _, @ErsL.cons _ _ _ c fl tab h t => ⟨fun d f e => by
    by_cases z : d == c
    · simp only [List.lookup, z] at e
      cases e
      rw [eq_of_beq z]
      exact h
    · have z : (d == c) = false := by simpa using z
      simp only [List.lookup, z] at e
      exact t.ers.of d f e⟩
/-! which own classes an error is of, by one table -/
inductive AllC (K : PySem.W.Frag) (mg : Str → Option Value) : List (Str × Addr) → Prop
  | nil : AllC K mg []
  | cons {c : Str} {C : Addr} {tab : List (Str × Addr)} (g : mg c = some (.ref C)) (i : PySem.W.isClsIn K C = true) (t : PySem.W.typeIn K (.ref C) = some (.type "type")) (e : PySem.W.subIn K (.ref C) (.type "BaseException") = some true) (more : AllC K mg tab) : AllC K mg ((c, C) :: tab)
theorem AllC.at {K : PySem.W.Frag} {mg : Str → Option Value} : ∀ {tab : List (Str × Addr)}, AllC K mg tab → ∀ p ∈ tab, mg p.1 = some (.ref p.2) ∧ PySem.W.isClsIn K p.2 = true ∧ PySem.W.typeIn K (.ref p.2) = some (.type "type") ∧ PySem.W.subIn K (.ref p.2) (.type "BaseException") = some true
  | _, .nil, p, m => by cases m
  | _, .cons g i t e more, p, m => by
    rcases List.mem_cons.mp m with rfl | m
    · exact ⟨g, i, t, e⟩
    · exact more.at p m
def noRefs : List Value → Bool
  | [] => true
  | .type _ :: r => noRefs r
  | _ => false
/-- the errors of the table (with their bases): their way up -/
inductive AllM (K : PySem.W.Frag) (mg : Str → Option Value) (tab : List (Str × Addr)) (bas : List (Str × List String)) : List (Str × Str) → Prop
  | nil : AllM K mg tab bas []
  | cons {c b : Str} {C B : Addr} {nm q : Str} {N : Addr} {bs bmB sub : List Value} {hd ab : Bool} {sn : List Str} {col : Option Bool} {dd : Option Addr} {k0 k1 k2 k3 k5 : Option Value} {id : String} {errs : List (Str × Str)} {l : List String}
      (lC : K.lookup C = some (excClassObj nm q C N bs (.ref B :: bmB) hd sn sub ab col dd k0 k1 k2 k3 k5 id)) (hl : bas.lookup b = some l) (hb : bmB = l.map Value.type) (m1 : (c, C) ∈ tab) (m2 : (b, B) ∈ tab) (more : AllM K mg tab bas errs) : AllM K mg tab bas ((c, b) :: errs)
theorem noRefs_map : ∀ l : List String, noRefs (l.map Value.type) = true
  | [] => rfl
  | _ :: r => noRefs_map r
theorem AllM.at {K : PySem.W.Frag} {mg : Str → Option Value} {tab : List (Str × Addr)} {bas : List (Str × List String)} : ∀ {errs : List (Str × Str)}, AllM K mg tab bas errs → ∀ c b, errs.lookup c = some b → ∃ C B l cd, (c, C) ∈ tab ∧ (b, B) ∈ tab ∧ bas.lookup b = some l ∧ PySem.W.clsIn K C = some cd ∧ cd.mro = .ref C :: .ref B :: l.map Value.type
  | _, .nil, c, b, e => by cases e
  | _, @AllM.cons _ _ _ _ c b C B nm q N bs bmB sub hd ab sn col dd k0 k1 k2 k3 k5 id errs l lC hl hb m1 m2 more, d, f, e => by
    by_cases z : d == c
    · simp only [List.lookup, z] at e
      cases e
      rw [eq_of_beq z]
      subst hb
      exact ⟨C, B, l, { name := nm, bases := bs, mro := .ref C :: .ref B :: l.map Value.type, ns := N, qualname := q, hasDict := hd, slotNames := sn, subclasses := sub, abstract := ab, collection := col, hasDel := false }, m1, m2, hl, by unfold PySem.W.clsIn; rw [lC] <;> rfl, rfl⟩
    · have z : (d == c) = false := by simpa using z
      simp only [List.lookup, z] at e
      exact more.at d f e
theorem noRefs_not {E : Addr} : ∀ {l : List Value}, noRefs l = true → l.contains (.ref E) = false
  | [], _ => rfl
  | .type n :: r, h => by
    rw [List.contains_cons, noRefs_not (l := r) h]
    simp
def kinT (errs : List (Str × Str)) (names : List Str) (c D : Str) : Option Bool := match errs.lookup c with
  | some b => if D ∈ names then some (decide (D = c) || decide (D = b)) else none
  | none => none
section
variable {K : PySem.W.Frag} {mg : Str → Option Value} {tab : List (Str × Addr)} {errs : List (Str × Str)} {bas : List (Str × List String)}
theorem tab_one (A : AllC K mg tab) (nd : (tab.map (·.2)).Nodup) {c d : Str} {C D : Addr} (m1 : (c, C) ∈ tab) (m2 : (d, D) ∈ tab) : C = D ↔ c = d := by
  constructor
  · rintro rfl
    obtain ⟨i, hi, e1⟩ := List.mem_iff_getElem.mp m1
    obtain ⟨j, hj, e2⟩ := List.mem_iff_getElem.mp m2
    have e : (tab.map (·.2))[i]'(by rw [List.length_map]; exact hi) = (tab.map (·.2))[j]'(by rw [List.length_map]; exact hj) := by
      rw [List.getElem_map, List.getElem_map, e1, e2]
    have z := (List.getElem_inj nd).mp e
    subst z
    rw [e1] at e2
    cases e2
    rfl
  · rintro rfl
    have g1 := (A.at _ m1).1
    have g2 := (A.at _ m2).1
    rw [g1] at g2
    cases g2
    rfl
theorem kin_sub (A : AllC K mg tab) (Mm : AllM K mg tab bas errs) (nd : (tab.map (·.2)).Nodup) {c D : Str} {b : Bool} {C E : Addr} (e : kinT errs (tab.map (·.1)) c D = some b) (h1 : mg c = some (.ref C)) (h2 : mg D = some (.ref E)) : (D, E) ∈ tab ∧ (c, C) ∈ tab ∧ PySem.W.subIn K (.ref C) (.ref E) = some b ∧ (C = E → b = true) := by
  unfold kinT at e
  split at e
  · rename_i bs hl
    split at e
    · rename_i hD
      cases e
      obtain ⟨C', B, l, cd, m1, m2, hba, hcd, hm⟩ := Mm.at c bs hl
      have nr := noRefs_map l
      have g1 := (A.at _ m1).1
      rw [h1] at g1
      cases g1
      obtain ⟨p, mp, ep⟩ := List.mem_map.mp hD
      obtain ⟨D', E'⟩ := p
      cases ep
      have g2 := (A.at _ mp).1
      rw [h2] at g2
      cases g2
      have z1 := tab_one A nd mp m1
      have z2 := tab_one A nd mp m2
      refine ⟨mp, m1, ?_, fun z => by simp [z1.mp z.symm]⟩
      show PySem.W.mroIn K C' (.ref E') = _
      unfold PySem.W.mroIn
      rw [hcd]
      simp only [Option.bind_some, hm, List.isEmpty_cons, Bool.false_eq_true, if_false, List.contains_cons, noRefs_not nr, Bool.or_false]
      have e1 : (Value.ref E' == Value.ref C') = decide (D' = c) := by
        rw [Bool.eq_iff_iff, beq_iff_eq, decide_eq_true_eq, ← z1]
        exact ⟨fun z => by cases z; rfl, fun z => by rw [z]⟩
      have e2 : (Value.ref E' == Value.ref B) = decide (D' = bs) := by
        rw [Bool.eq_iff_iff, beq_iff_eq, decide_eq_true_eq, ← z2]
        exact ⟨fun z => by cases z; rfl, fun z => by rw [z]⟩
      rw [e1, e2]
    · cases e
  · cases e
theorem ktab_mk (A : AllC K mg tab) (Mm : AllM K mg tab bas errs) (nd : (tab.map (·.2)).Nodup) : KTab K mg (kinT errs (tab.map (·.1))) := by
  refine ⟨fun c D b C E e h1 h2 => ?_⟩
  obtain ⟨m, _, hs, hb⟩ := kin_sub A Mm nd e h1 h2
  obtain ⟨_, g2, g3, _⟩ := A.at _ m
  by_cases z : (Value.ref C == Value.ref E) = true
  · unfold PySem.W.kitOne
    rw [if_pos z, hb (by have := beq_iff_eq.mp z; cases this; rfl)]
  · exact kit_pair g2 g3 hs (by simpa using z)
theorem subT_mk (A : AllC K mg tab) (Mm : AllM K mg tab bas errs) (nd : (tab.map (·.2)).Nodup) : Sub K mg (kinT errs (tab.map (·.1))) := by
  refine ⟨fun c D b C E e h1 h2 => ?_⟩
  obtain ⟨m, _, hs, hb⟩ := kin_sub A Mm nd e h1 h2
  obtain ⟨_, g2, g3, g4⟩ := A.at _ m
  exact exm_pair g4 g2 g3 hs
/-! built-in bases -/
def kinB (errs : List (Str × Str)) (bas : List (Str × List String)) (c : Str) (D : String) : Option Bool := match errs.lookup c with
  | some b => match bas.lookup b with
    | some l => if D = "ValueError" ∨ D = "LookupError" ∨ D = "Exception" then some (decide (D ∈ l)) else none
    | none => none
  | none => none
theorem types_has {D : String} : ∀ l : List String, (l.map Value.type).contains (.type D) = decide (D ∈ l)
  | [] => rfl
  | a :: r => by
    rw [List.map_cons, List.contains_cons, types_has r, Bool.eq_iff_iff]
    simp only [Bool.or_eq_true, beq_iff_eq, decide_eq_true_eq, List.mem_cons]
    constructor
    · rintro (z | z)
      · cases z
        exact .inl rfl
      · exact .inr z
    · rintro (rfl | z)
      · exact .inl rfl
      · exact .inr z
theorem ktaB_mk (A : AllC K mg tab) (Mm : AllM K mg tab bas errs) : KTaB K mg (kinB errs bas) := by
  refine ⟨fun c D b C e h1 => ?_⟩
  unfold kinB at e
  split at e
  · rename_i bs hl
    split at e
    · rename_i l hl2
      split at e
      · rename_i hD
        cases e
        obtain ⟨C', B, l', cd, m1, m2, hba, hcd, hm⟩ := Mm.at c bs hl
        rw [hl2] at hba
        cases hba
        have g1 := (A.at _ m1).1
        rw [h1] at g1
        cases g1
        have km : PySem.W.kitMeta D = true := by
          rcases hD with rfl | rfl | rfl <;> decide +kernel
        refine kit_bi km ?_
        show PySem.W.mroIn K C' (.type D) = _
        unfold PySem.W.mroIn
        rw [hcd]
        simp only [Option.bind_some, hm, List.isEmpty_cons, Bool.false_eq_true, if_false, List.contains_cons, types_has]
        have e1 : (Value.type D == Value.ref C') = false := by simp
        have e2 : (Value.type D == Value.ref B) = false := by simp
        rw [e1, e2, Bool.false_or, Bool.false_or]
      · cases e
    · cases e
  · cases e
end
end M
set_option Elab.async false
set_option linter.all false
set_option maxRecDepth 100000
set_option maxHeartbeats 4000000
namespace M
open PySem PySem.Spec L2 G
/-! ### equations for reckoning: comprehensions, ranges, errors as values -/
noncomputable def kLc (md : Bool) (g : MG) (tt : MT) (te : ME) (s : Sm) (r : R Src) : R MV := r.bind fun c h1 => (runL c g tt te c.its [] s h1).bind (newL md)
noncomputable def kLc2 (md : Bool) (r : R (List MV)) : R MV := r.bind (newL md)
noncomputable def kL1 (c : Src) (g : MG) (tt : MT) (te : ME) (xs acc : List MV) (s : Sm) (r : R Sm) : R (List MV) := (noX r).bind fun s1 h1 => (noX (tt s1 h1)).bind fun b h2 => if b = true then (noX (te s1 h2)).bind fun u h3 => if acc.length < 1000000 then runL c g tt te xs (acc ++ [u]) s h3 else .bad else runL c g tt te xs acc s h2
noncomputable def kL2 (c : Src) (g : MG) (tt : MT) (te : ME) (xs acc : List MV) (s s1 : Sm) (r : R Bool) : R (List MV) := (noX r).bind fun b h2 => if b = true then (noX (te s1 h2)).bind fun u h3 => if acc.length < 1000000 then runL c g tt te xs (acc ++ [u]) s h3 else .bad else runL c g tt te xs acc s h2
noncomputable def kL3 (c : Src) (g : MG) (tt : MT) (te : ME) (xs acc : List MV) (s : Sm) (r : R MV) : R (List MV) := (noX r).bind fun u h3 => if acc.length < 1000000 then runL c g tt te xs (acc ++ [u]) s h3 else .bad
section
variable (h : MH) (s s1 : Sm) (md : Bool) (g : MG) (tt : MT) (te : ME) (mi : MI) (vs : List Nat) (zs xs acc : List MV) (v u : MV) (m : MA) (ma : ME) (c : Src)
theorem e_lc : mLc md mi g tt te vs s h = kLc md g tt te (wipeM s vs) (mi s h) := rfl
theorem k_lc (o : Option Nat) : kLc md g tt te s (.ok ⟨zs, o⟩ h) = kLc2 md (runL ⟨zs, o⟩ g tt te zs [] s h) := rfl
theorem k_lc2 : kLc2 md (.ok xs h) = newL md xs h := rfl
theorem e_yes : mYes s h = .ok true h := rfl
theorem l_nil : runL ⟨zs, none⟩ g tt te [] acc s h = .ok acc h := by
  unfold runL
  rw [if_pos (src_ok zs h)]
theorem l_cons : runL ⟨zs, none⟩ g tt te (v :: xs) acc s h = kL1 ⟨zs, none⟩ g tt te xs acc s (g v s h) := by
  conv => lhs; unfold runL
  rw [if_pos (src_ok zs h)]
  rfl
theorem l_nilR {n : Nat} (hn : h[n]? = some (.lst zs)) : runL ⟨zs, some n⟩ g tt te [] acc s h = .ok acc h := by
  unfold runL
  rw [if_pos (show (Src.mk zs (some n)).Ok h from hn)]
theorem l_consR {n : Nat} (hn : h[n]? = some (.lst zs)) : runL ⟨zs, some n⟩ g tt te (v :: xs) acc s h = kL1 ⟨zs, some n⟩ g tt te xs acc s (g v s h) := by
  conv => lhs; unfold runL
  rw [if_pos (show (Src.mk zs (some n)).Ok h from hn)]
  rfl
theorem src_ref {n : Nat} (hn : h[n]? = some (.lst xs)) : srcOf h (.ref n) = some ⟨xs, some n⟩ := by simp only [srcOf, hn]
theorem k_l1 : kL1 c g tt te xs acc s (.ok s1 h) = kL2 c g tt te xs acc s s1 (tt s1 h) := rfl
theorem k_l2t : kL2 c g tt te xs acc s s1 (.ok true h) = kL3 c g tt te xs acc s (te s1 h) := rfl
theorem k_l2f : kL2 c g tt te xs acc s s1 (.ok false h) = runL c g tt te xs acc s h := rfl
theorem k_l3 (ha : acc.length < 1000000) : kL3 c g tt te xs acc s (.ok u h) = runL c g tt te xs (acc ++ [u]) s h := by
  show (if acc.length < 1000000 then _ else _) = _
  rw [if_pos ha]
def kR1 (r : R (List MV)) : R Src := r.bind fun vs h1 => match vs with
  | [v] => match v with
    | .int j => if -(2 ^ 62) ≤ j ∧ j < 2 ^ 62 then .ok ⟨rangeM 0 j.toNat, none⟩ h1 else .bad
    | _ => .bad
  | _ => .bad
theorem e_r1 : mR1 m s h = kR1 (m s h) := rfl
theorem k_r1 {j : Int} (h0 : 0 ≤ j) (h1 : j ≤ 1000000000) : kR1 (.ok [.int j] h) = .ok ⟨rangeM 0 j.toNat, none⟩ h := by
  show (if -(2 ^ 62) ≤ j ∧ j < 2 ^ 62 then _ else _) = _
  rw [if_pos ⟨by omega, by omega⟩]
theorem k_r1N (n : Nat) (hn : n ≤ 1000000000) : kR1 (.ok [.int (no_index (OfNat.ofNat n))] h) = .ok ⟨rangeM 0 n, none⟩ h := k_r1 h (by show (0 : Int) ≤ ((n : Nat) : Int); omega) (by show ((n : Nat) : Int) ≤ 1000000000; omega)
def kEn (r : R (List MV)) : R Src := r.bind fun vs h1 => match vs with
  | [v] => match v with
    | .tup xs => .ok ⟨enumM xs, none⟩ h1
    | .lst xs => .ok ⟨enumM xs, none⟩ h1
    | .scr xs => .ok ⟨enumM xs, none⟩ h1
    | _ => .bad
  | _ => .bad
theorem e_en : mEn m s h = kEn (m s h) := rfl
theorem k_enL : kEn (.ok [.lst xs] h) = .ok ⟨enumM xs, none⟩ h := rfl
theorem k_enT : kEn (.ok [.tup xs] h) = .ok ⟨enumM xs, none⟩ h := rfl
/-! errors -/
def kMkE (x : Str) (flds : List Str) (r : R (List MV)) : R MV := r.bind fun vs h1 => if vs.length = flds.length then .ok (.er x (flds.zip vs)) h1 else .bad
theorem e_mkE (x : Str) (flds : List Str) : mMkE x flds m s h = kMkE x flds (m s h) := rfl
theorem k_mkE (x : Str) (flds : List Str) (hl : xs.length = flds.length) : kMkE x flds (.ok xs h) = .ok (.er x (flds.zip xs)) h := by
  show (if xs.length = flds.length then _ else _) = _
  rw [if_pos hl]
def kErF (tab : List (Str × List Str)) (n : Str) (r : R MV) : R MV := r.bind (erF tab n)
theorem e_erF (tab : List (Str × List Str)) (n : Str) : mErF tab n ma s h = kErF tab n (ma s h) := rfl
theorem k_erF (tab : List (Str × List Str)) (n c : Str) (fs : List (Str × MV)) : kErF tab n (.ok (.er c fs) h) = if hasF tab c n = true then opR (fs.lookup n) h else .bad := rfl
def kIsE {α : Type} (tab : List (Str × List Str)) (kin : Str → α → Option Bool) (D : α) (r : R MV) : R MV := r.bind (isE tab kin D)
theorem e_isE {α : Type} (tab : List (Str × List Str)) (kin : Str → α → Option Bool) (D : α) : mIsE tab kin D ma s h = kIsE tab kin D (ma s h) := rfl
theorem k_isE {α : Type} (tab : List (Str × List Str)) (kin : Str → α → Option Bool) (D : α) (c : Str) (fs : List (Str × MV)) {b : Bool} (h1 : (tab.lookup c).isSome = true) (h2 : kin c D = some b) : kIsE tab kin D (.ok (.er c fs) h) = .ok (.bl b) h := by
  show isE tab kin D (.er c fs) h = _
  simp only [isE, h1, if_true, h2]
end
/-- a comprehension by an invariant -/
theorem lc_inv {P : Nat → MH → Prop} {U : MV → Prop} {g : MG} {tt : MT} {te : ME} {zs : List MV} {s : Sm} : ∀ {xs acc : List MV} {i : Nat} {h : MH}, P i h → acc.length + xs.length ≤ 1000000 →
    (∀ j v, xs[j]? = some v → ∀ h, P (i + j) h → ∃ s1 u h1, g v s h = .ok s1 h ∧ tt s1 h = .ok true h ∧ te s1 h = .ok u h1 ∧ U u ∧ P (i + j + 1) h1) →
    ∃ us h1, runL ⟨zs, none⟩ g tt te xs acc s h = .ok (acc ++ us) h1 ∧ us.length = xs.length ∧ (∀ u ∈ us, U u) ∧ P (i + xs.length) h1
  | [], acc, i, h, p, _, _ => ⟨[], h, by rw [l_nil, List.append_nil], rfl, (fun _ z => nomatch z), p⟩
  | v :: xs, acc, i, h, p, hl, st => by
    rw [List.length_cons] at hl
    obtain ⟨s1, u, h1, e1, e2, e3, hu, p1⟩ := st 0 v rfl h p
    obtain ⟨us, h2, e4, e5, e6, p2⟩ := lc_inv (xs := xs) (acc := acc ++ [u]) (i := i + 1) (h := h1) p1 (by rw [List.length_append, List.length_singleton]; omega) (fun j w hw h q => by
      have := st (j + 1) w hw h (by rw [show i + (j + 1) = i + 1 + j by omega]; exact q)
      rw [show i + (j + 1) = i + 1 + j by omega] at this
      exact this)
    refine ⟨u :: us, h2, ?_, by rw [List.length_cons, List.length_cons, e5], ?_, ?_⟩
    · rw [l_cons, e1, k_l1, e2, k_l2t, e3, k_l3 (ha := by omega), e4, List.append_assoc]
      rfl
    · intro w hw
      rcases List.mem_cons.mp hw with rfl | hw
      · exact hu
      · exact e6 w hw
    · rw [List.length_cons, show i + (xs.length + 1) = i + 1 + xs.length by omega]
      exact p2
end M
set_option Elab.async false
set_option linter.all false
set_option maxRecDepth 100000
set_option maxHeartbeats 4000000
namespace L
open PySem PySem.Spec L2 G M
def errTab : List (Str × List Str) := [("NoRow", ["row"]), ("NoPlace", ["lst", "place"]), ("NoHandler", ["name"]), ("BadName", ["name"]), ("BadPlace", ["place"]), ("BadSlide", ["index"]), ("NoInverse", ["slide"]), ("Twice", ["row"]), ("BadOperation", ["op"]), ("BadCall", ["argument"]), ("BadVisit", ["visit"]), ("BadLine", ["line"]), ("BadStep", ["index"]), ("BadText", ["index"]), ("BadWorld", ["world"]), ("BadNumber", ["name"]), ("BadSpot", ["spot"]), ("BadBound", ["index"]), ("BadKind", ["kind"]), ("OtherOperation", ["op"]), ("BadOrder", ["order"]), ("BadPair", ["first", "second"]), ("BadRule", ["rule"]), ("BadMend", ["mend"]), ("TooMany", ["limit"]), ("Clash", ["step", "row", "other"]), ("CallFailed", ["index", "reason"])]
def errB : List (Str × Str) := [("NoRow", "MissingError"), ("NoPlace", "MissingError"), ("NoHandler", "MissingError"), ("BadName", "PlaceError"), ("BadPlace", "PlaceError"), ("BadSlide", "PlaceError"), ("NoInverse", "PlaceError"), ("Twice", "PlaceError"), ("BadOperation", "PlaceError"), ("BadCall", "PlaceError"), ("BadVisit", "PlaceError"), ("BadLine", "PlaceError"), ("BadStep", "PlaceError"), ("BadText", "PlaceError"), ("BadWorld", "PlaceError"), ("BadNumber", "PlaceError"), ("BadSpot", "PlaceError"), ("BadBound", "PlaceError"), ("BadKind", "PlaceError"), ("OtherOperation", "PlaceError"), ("BadOrder", "PlaceError"), ("BadPair", "PlaceError"), ("BadRule", "PlaceError"), ("BadMend", "PlaceError"), ("TooMany", "PlaceError"), ("Clash", "PlaceError"), ("CallFailed", "PlaceError")]
def errN : List Str := ["NoRow", "NoPlace", "NoHandler", "BadName", "BadPlace", "BadSlide", "NoInverse", "Twice", "BadOperation", "BadCall", "BadVisit", "BadLine", "BadStep", "BadText", "BadWorld", "BadNumber", "BadSpot", "BadBound", "BadKind", "OtherOperation", "BadOrder", "BadPair", "BadRule", "BadMend", "TooMany", "Clash", "CallFailed", "MissingError", "PlaceError"]
def errBas : List (Str × List String) := [("MissingError", ["LookupError", "Exception", "BaseException", "object"]), ("PlaceError", ["ValueError", "Exception", "BaseException", "object"])]
def kinO : Str → Str → Option Bool := kinT errB errN
def kinX : Str → String → Option Bool := kinB errB errBas
abbrev subE : Str → Str → Option Bool := kinO
noncomputable def F__law_bag : MC := mFun none 2 2
    (mSeq (mSet 2 (mIf (mTest (mOp gLt (mVar 1) (mCB (on1 fLen) (mCons (mVar 0) mNil)))) (mOp gIx (mVar 0) (mVar 1)) (mK (.int 0))))
    (mSeq (mSet 3 (mIf (mTest (mOp gGe (mCB (on1 fAbs) (mCons (mVar 2) mNil)) (mOp gPow (mK (.int 10)) (mK (.int 18))))) (mCB (on1 fAbs) (mCons (mVar 2) mNil)) (mK (.int 0))))
    (mRet (mLst true (mCons (mVar 3) (mCons (mOp (gAdd false) (mOp (gAdd false) (mOp gMod (mCB (on1 fInt) (mCons (mVar 2) mNil)) (mK (.int 1152921504606846883))) (mOp (gMul false) (mK (.int 7001)) (mVar 1))) (mK (.int 17))) (mCons (mK (.int 0)) mNil)))))))
noncomputable def F__law_draw : MC := mFun none 2 2
    (mSeq (mIfS (mTest (mOp gGt (mOp gIx (mVar 0) (mK (.int 0))) (mK (.int 0)))) (mSeq (mSet 2 (mOp gMod (mCB (on1 fInt) (mCons (mOp gIx (mVar 0) (mK (.int 0))) mNil)) (mVar 1)))
    (mSeq (mAsg (mOp gDiv (mOp gIx (mVar 0) (mK (.int 0))) (mVar 1)) (gSb (mVar 0) (mK (.int 0))))
    (mRet (mVar 2)))) mNx)
    (mSeq (mAsg (mOp (gAdd false) (mOp gIx (mVar 0) (mK (.int 2))) (mK (.int 1))) (gSb (mVar 0) (mK (.int 2))))
    (mSeq (mSet 3 (mOp (gAdd false) (mOp gPow (mOp (gAdd false) (mOp gIx (mVar 0) (mK (.int 1))) (mOp (gMul false) (mK (.int 611953)) (mOp gIx (mVar 0) (mK (.int 2))))) (mK (.int 2))) (mOp (gMul false) (mK (.int 40503)) (mOp gIx (mVar 0) (mK (.int 1))))))
    (mSeq (mSet 3 (mOp gMod (mCB (on1 fInt) (mCons (mVar 3) mNil)) (mK (.int 1152921504606846869))))
    (mSeq (mSet 3 (mOp gMod (mCB (on1 fInt) (mCons (mOp gPow (mOp (gAdd false) (mVar 3) (mOp (gMul false) (mK (.int 15485863)) (mOp gIx (mVar 0) (mK (.int 2))))) (mK (.int 3))) mNil)) (mK (.int 2305843009213693951))))
    (mRet (mOp gMod (mCB (on1 fInt) (mCons (mOp gDiv (mVar 3) (mK (.int 4096))) mNil)) (mVar 1))))))))
noncomputable def F__law_of : MC := mFun none 2 0
    (mRet (mOp gIx (mVar 1) (mCall F__law_draw (mCons (mVar 0) (mCons (mCB (on1 fLen) (mCons (mVar 1) mNil)) mNil)))))
noncomputable def F__law_made : MC := mFun none 3 1
    (mSeq (mSet 3 (mLst false (mCons (mMkE "NoRow" ["row"] (mCons (mVar 0) mNil)) (mCons (mMkE "NoPlace" ["lst", "place"] (mCons (mVar 0) (mCons (mVar 1) mNil))) (mCons (mMkE "NoHandler" ["name"] (mCons (mVar 0) mNil)) (mCons (mMkE "BadName" ["name"] (mCons (mVar 0) mNil)) (mCons (mMkE "BadPlace" ["place"] (mCons (mVar 0) mNil)) (mCons (mMkE "BadSlide" ["index"] (mCons (mVar 0) mNil)) (mCons (mMkE "NoInverse" ["slide"] (mCons (mVar 0) mNil)) (mCons (mMkE "Twice" ["row"] (mCons (mVar 0) mNil)) mNil))))))))))
    (mSeq (mSet 3 (mOp (gAdd false) (mVar 3) (mLst false (mCons (mMkE "BadOperation" ["op"] (mCons (mVar 0) mNil)) (mCons (mMkE "BadCall" ["argument"] (mCons (mVar 0) mNil)) (mCons (mMkE "BadVisit" ["visit"] (mCons (mVar 0) mNil)) (mCons (mMkE "BadLine" ["line"] (mCons (mVar 0) mNil)) (mCons (mMkE "BadStep" ["index"] (mCons (mVar 0) mNil)) (mCons (mMkE "BadText" ["index"] (mCons (mVar 0) mNil)) (mCons (mMkE "BadWorld" ["world"] (mCons (mVar 0) mNil)) mNil))))))))))
    (mSeq (mSet 3 (mOp (gAdd false) (mVar 3) (mLst false (mCons (mMkE "BadNumber" ["name"] (mCons (mVar 0) mNil)) (mCons (mMkE "BadSpot" ["spot"] (mCons (mVar 0) mNil)) (mCons (mMkE "BadBound" ["index"] (mCons (mVar 0) mNil)) (mCons (mMkE "BadKind" ["kind"] (mCons (mVar 0) mNil)) (mCons (mMkE "OtherOperation" ["op"] (mCons (mVar 0) mNil)) (mCons (mMkE "BadOrder" ["order"] (mCons (mVar 0) mNil)) (mCons (mMkE "BadPair" ["first", "second"] (mCons (mVar 0) (mCons (mVar 1) mNil))) mNil))))))))))
    (mRet (mOp (gAdd false) (mVar 3) (mLst false (mCons (mMkE "BadRule" ["rule"] (mCons (mVar 0) mNil)) (mCons (mMkE "BadMend" ["mend"] (mCons (mVar 0) mNil)) (mCons (mMkE "TooMany" ["limit"] (mCons (mVar 0) mNil)) (mCons (mMkE "Clash" ["step", "row", "other"] (mCons (mVar 0) (mCons (mVar 1) (mCons (mVar 2) mNil)))) (mCons (mMkE "CallFailed" ["index", "reason"] (mCons (mVar 0) (mCons (mVar 1) mNil))) mNil)))))))))))
noncomputable def F__law_told : MC := mFun none 1 1
    (mSeq (mSet 1 (mLst false (mCons (mLst false (mCons (mErF errTab "row" (mOp gIx (mVar 0) (mK (.int 0)))) mNil)) (mCons (mLst false (mCons (mErF errTab "lst" (mOp gIx (mVar 0) (mK (.int 1)))) (mCons (mErF errTab "place" (mOp gIx (mVar 0) (mK (.int 1)))) mNil))) (mCons (mLst false (mCons (mErF errTab "name" (mOp gIx (mVar 0) (mK (.int 2)))) mNil)) (mCons (mLst false (mCons (mErF errTab "name" (mOp gIx (mVar 0) (mK (.int 3)))) mNil)) (mCons (mLst false (mCons (mErF errTab "place" (mOp gIx (mVar 0) (mK (.int 4)))) mNil)) mNil)))))))
    (mSeq (mSet 1 (mOp (gAdd false) (mVar 1) (mLst false (mCons (mLst false (mCons (mErF errTab "index" (mOp gIx (mVar 0) (mK (.int 5)))) mNil)) (mCons (mLst false (mCons (mErF errTab "slide" (mOp gIx (mVar 0) (mK (.int 6)))) mNil)) (mCons (mLst false (mCons (mErF errTab "row" (mOp gIx (mVar 0) (mK (.int 7)))) mNil)) (mCons (mLst false (mCons (mErF errTab "op" (mOp gIx (mVar 0) (mK (.int 8)))) mNil)) (mCons (mLst false (mCons (mErF errTab "argument" (mOp gIx (mVar 0) (mK (.int 9)))) mNil)) mNil))))))))
    (mSeq (mSet 1 (mOp (gAdd false) (mVar 1) (mLst false (mCons (mLst false (mCons (mErF errTab "visit" (mOp gIx (mVar 0) (mK (.int 10)))) mNil)) (mCons (mLst false (mCons (mErF errTab "line" (mOp gIx (mVar 0) (mK (.int 11)))) mNil)) (mCons (mLst false (mCons (mErF errTab "index" (mOp gIx (mVar 0) (mK (.int 12)))) mNil)) (mCons (mLst false (mCons (mErF errTab "index" (mOp gIx (mVar 0) (mK (.int 13)))) mNil)) (mCons (mLst false (mCons (mErF errTab "world" (mOp gIx (mVar 0) (mK (.int 14)))) mNil)) mNil))))))))
    (mSeq (mSet 1 (mOp (gAdd false) (mVar 1) (mLst false (mCons (mLst false (mCons (mErF errTab "name" (mOp gIx (mVar 0) (mK (.int 15)))) mNil)) (mCons (mLst false (mCons (mErF errTab "spot" (mOp gIx (mVar 0) (mK (.int 16)))) mNil)) (mCons (mLst false (mCons (mErF errTab "index" (mOp gIx (mVar 0) (mK (.int 17)))) mNil)) (mCons (mLst false (mCons (mErF errTab "kind" (mOp gIx (mVar 0) (mK (.int 18)))) mNil)) (mCons (mLst false (mCons (mErF errTab "op" (mOp gIx (mVar 0) (mK (.int 19)))) mNil)) mNil))))))))
    (mSeq (mSet 1 (mOp (gAdd false) (mVar 1) (mLst false (mCons (mLst false (mCons (mErF errTab "order" (mOp gIx (mVar 0) (mK (.int 20)))) mNil)) (mCons (mLst false (mCons (mErF errTab "first" (mOp gIx (mVar 0) (mK (.int 21)))) (mCons (mErF errTab "second" (mOp gIx (mVar 0) (mK (.int 21)))) mNil))) (mCons (mLst false (mCons (mErF errTab "rule" (mOp gIx (mVar 0) (mK (.int 22)))) mNil)) (mCons (mLst false (mCons (mErF errTab "mend" (mOp gIx (mVar 0) (mK (.int 23)))) mNil)) mNil)))))))
    (mSeq (mSet 1 (mOp (gAdd false) (mVar 1) (mLst false (mCons (mLst false (mCons (mErF errTab "limit" (mOp gIx (mVar 0) (mK (.int 24)))) mNil)) (mCons (mLst false (mCons (mErF errTab "step" (mOp gIx (mVar 0) (mK (.int 25)))) (mCons (mErF errTab "row" (mOp gIx (mVar 0) (mK (.int 25)))) (mCons (mErF errTab "other" (mOp gIx (mVar 0) (mK (.int 25)))) mNil)))) mNil)))))
    (mRet (mOp (gAdd false) (mVar 1) (mLst false (mCons (mLst false (mCons (mErF errTab "index" (mOp gIx (mVar 0) (mK (.int 26)))) (mCons (mErF errTab "reason" (mOp gIx (mVar 0) (mK (.int 26)))) mNil))) mNil))))))))))
noncomputable def F__law_classes : MC := mFun none 1 1
    (mSeq (mSet 1 (mLst false (mCons (mIsE errTab kinO "NoRow" (mVar 0)) (mCons (mIsE errTab kinO "NoPlace" (mVar 0)) (mCons (mIsE errTab kinO "NoHandler" (mVar 0)) (mCons (mIsE errTab kinO "BadName" (mVar 0)) mNil))))))
    (mSeq (mSet 1 (mOp (gAdd false) (mVar 1) (mLst false (mCons (mIsE errTab kinO "BadPlace" (mVar 0)) (mCons (mIsE errTab kinO "BadSlide" (mVar 0)) (mCons (mIsE errTab kinO "NoInverse" (mVar 0)) (mCons (mIsE errTab kinO "Twice" (mVar 0)) mNil)))))))
    (mSeq (mSet 1 (mOp (gAdd false) (mVar 1) (mLst false (mCons (mIsE errTab kinO "BadOperation" (mVar 0)) (mCons (mIsE errTab kinO "BadCall" (mVar 0)) (mCons (mIsE errTab kinO "BadVisit" (mVar 0)) mNil))))))
    (mSeq (mSet 1 (mOp (gAdd false) (mVar 1) (mLst false (mCons (mIsE errTab kinO "BadLine" (mVar 0)) (mCons (mIsE errTab kinO "BadStep" (mVar 0)) (mCons (mIsE errTab kinO "BadText" (mVar 0)) (mCons (mIsE errTab kinO "BadWorld" (mVar 0)) mNil)))))))
    (mSeq (mSet 1 (mOp (gAdd false) (mVar 1) (mLst false (mCons (mIsE errTab kinO "BadNumber" (mVar 0)) (mCons (mIsE errTab kinO "BadSpot" (mVar 0)) (mCons (mIsE errTab kinO "BadBound" (mVar 0)) mNil))))))
    (mSeq (mSet 1 (mOp (gAdd false) (mVar 1) (mLst false (mCons (mIsE errTab kinO "BadKind" (mVar 0)) (mCons (mIsE errTab kinO "OtherOperation" (mVar 0)) (mCons (mIsE errTab kinO "BadOrder" (mVar 0)) mNil))))))
    (mSeq (mSet 1 (mOp (gAdd false) (mVar 1) (mLst false (mCons (mIsE errTab kinO "BadPair" (mVar 0)) (mCons (mIsE errTab kinO "BadRule" (mVar 0)) (mCons (mIsE errTab kinO "BadMend" (mVar 0)) (mCons (mIsE errTab kinO "TooMany" (mVar 0)) mNil)))))))
    (mRet (mOp (gAdd false) (mVar 1) (mLst false (mCons (mIsE errTab kinO "Clash" (mVar 0)) (mCons (mIsE errTab kinO "CallFailed" (mVar 0)) mNil))))))))))))
noncomputable def B_law_1 : MS := (mSeq (mSet 10 (mLc false (mIt (mVar 7)) (gN 15) mYes (mSl false (mVar 4) (mPs (mVar 8)) (mPs (mOp (gAdd false) (mVar 8) (mVar 15)))) [15]))
    (mIfS (mTest (mOp gNe (mCB (on1 fRepr) (mCons (mCall F__law_told (mCons (mVar 9) mNil)) mNil)) (mCB (on1 fRepr) (mCons (mVar 10) mNil)))) (mRet (mK (.bl false))) mNx))
theorem B_law_1_eq (s : Sm) (h : MH) : B_law_1 s h = (mSeq (mSet 10 (mLc false (mIt (mVar 7)) (gN 15) mYes (mSl false (mVar 4) (mPs (mVar 8)) (mPs (mOp (gAdd false) (mVar 8) (mVar 15)))) [15]))
    (mIfS (mTest (mOp gNe (mCB (on1 fRepr) (mCons (mCall F__law_told (mCons (mVar 9) mNil)) mNil)) (mCB (on1 fRepr) (mCons (mVar 10) mNil)))) (mRet (mK (.bl false))) mNx)) s h := rfl
noncomputable def B_law_2 : MS := (mSeq (mIfS (mTest (mOp gNe (mCall F__law_classes (mCons (mVar 12) mNil)) (mLc false (mR1 (mCons (mK (.int 27)) mNil)) (gN 16) mYes (mOp gEq (mVar 16) (mVar 11)) [16]))) (mRet (mK (.bl false))) mNx)
    (mSeq (mSet 13 (mLst false (mCons (mIsE errTab kinO "MissingError" (mVar 12)) (mCons (mIsE errTab kinX "LookupError" (mVar 12)) mNil))))
    (mIfS (mTOr (mTest (mOp gNe (mVar 13) (mLst false (mCons (mOp gLt (mVar 11) (mK (.int 3))) (mCons (mOp gLt (mVar 11) (mK (.int 3))) mNil))))) (mTOr (mTest (mOp gNe (mIsE errTab kinO "PlaceError" (mVar 12)) (mOp gGt (mVar 11) (mK (.int 2))))) (mTest (mOp gNe (mIsE errTab kinX "ValueError" (mVar 12)) (mOp gGt (mVar 11) (mK (.int 2))))))) (mRet (mK (.bl false))) mNx)))
theorem B_law_2_eq (s : Sm) (h : MH) : B_law_2 s h = (mSeq (mIfS (mTest (mOp gNe (mCall F__law_classes (mCons (mVar 12) mNil)) (mLc false (mR1 (mCons (mK (.int 27)) mNil)) (gN 16) mYes (mOp gEq (mVar 16) (mVar 11)) [16]))) (mRet (mK (.bl false))) mNx)
    (mSeq (mSet 13 (mLst false (mCons (mIsE errTab kinO "MissingError" (mVar 12)) (mCons (mIsE errTab kinX "LookupError" (mVar 12)) mNil))))
    (mIfS (mTOr (mTest (mOp gNe (mVar 13) (mLst false (mCons (mOp gLt (mVar 11) (mK (.int 3))) (mCons (mOp gLt (mVar 11) (mK (.int 3))) mNil))))) (mTOr (mTest (mOp gNe (mIsE errTab kinO "PlaceError" (mVar 12)) (mOp gGt (mVar 11) (mK (.int 2))))) (mTest (mOp gNe (mIsE errTab kinX "ValueError" (mVar 12)) (mOp gGt (mVar 11) (mK (.int 2))))))) (mRet (mK (.bl false))) mNx))) s h := rfl
noncomputable def B_law_3 : MS := (mSeq (mSet 3 (mCall F__law_bag (mCons (mVar 0) (mCons (mVar 2) mNil))))
    (mSeq (mSet 4 (mLc false (mR1 (mCons (mK (.int 6)) mNil)) (gN 14) mYes (mCall F__law_of (mCons (mVar 3) (mCons (mOp (gAdd false) (mVar 1) (mLst false (mCons (mCall F__law_draw (mCons (mVar 3) (mCons (mOp gPow (mK (.int 10)) (mK (.int 29))) mNil))) mNil))) mNil))) [14]))
    (mSeq (mPar 5 6 (mCons (mCall F__law_made (mCons (mOp gIx (mVar 4) (mK (.int 0))) (mCons (mOp gIx (mVar 4) (mK (.int 1))) (mCons (mOp gIx (mVar 4) (mK (.int 2))) mNil)))) (mCons (mCall F__law_made (mCons (mOp gIx (mVar 4) (mK (.int 3))) (mCons (mOp gIx (mVar 4) (mK (.int 4))) (mCons (mOp gIx (mVar 4) (mK (.int 5))) mNil)))) mNil)))
    (mSeq (mSet 7 (mOp (gMul true) (mLst false (mCons (mK (.int 1)) mNil)) (mK (.int 27))))
    (mSeq (mAsg (mTup (mCons (mK (.int 2)) (mCons (mK (.int 2)) (mCons (mK (.int 3)) (mCons (mK (.int 2)) mNil))))) (gTp 4 (gs1 (gSb (mVar 7) (mK (.int 1))) (gs1 (gSb (mVar 7) (mK (.int 21))) (gs1 (gSb (mVar 7) (mK (.int 25))) (gs1 (gSb (mVar 7) (mK (.int 26))) gs0))))))
    (mSeq (mFor (mIt (mTup (mCons (mTup (mCons (mK (.int 0)) (mCons (mVar 5) mNil))) (mCons (mTup (mCons (mK (.int 3)) (mCons (mVar 6) mNil))) mNil)))) (gTp 2 (gs1 (gN 8) (gs1 (gN 9) gs0))) B_law_1)
    (mFor (mEn (mCons (mVar 5) mNil)) (gTp 2 (gs1 (gN 11) (gs1 (gN 12) gs0))) B_law_2)))))))
theorem B_law_3_eq (s : Sm) (h : MH) : B_law_3 s h = (mSeq (mSet 3 (mCall F__law_bag (mCons (mVar 0) (mCons (mVar 2) mNil))))
    (mSeq (mSet 4 (mLc false (mR1 (mCons (mK (.int 6)) mNil)) (gN 14) mYes (mCall F__law_of (mCons (mVar 3) (mCons (mOp (gAdd false) (mVar 1) (mLst false (mCons (mCall F__law_draw (mCons (mVar 3) (mCons (mOp gPow (mK (.int 10)) (mK (.int 29))) mNil))) mNil))) mNil))) [14]))
    (mSeq (mPar 5 6 (mCons (mCall F__law_made (mCons (mOp gIx (mVar 4) (mK (.int 0))) (mCons (mOp gIx (mVar 4) (mK (.int 1))) (mCons (mOp gIx (mVar 4) (mK (.int 2))) mNil)))) (mCons (mCall F__law_made (mCons (mOp gIx (mVar 4) (mK (.int 3))) (mCons (mOp gIx (mVar 4) (mK (.int 4))) (mCons (mOp gIx (mVar 4) (mK (.int 5))) mNil)))) mNil)))
    (mSeq (mSet 7 (mOp (gMul true) (mLst false (mCons (mK (.int 1)) mNil)) (mK (.int 27))))
    (mSeq (mAsg (mTup (mCons (mK (.int 2)) (mCons (mK (.int 2)) (mCons (mK (.int 3)) (mCons (mK (.int 2)) mNil))))) (gTp 4 (gs1 (gSb (mVar 7) (mK (.int 1))) (gs1 (gSb (mVar 7) (mK (.int 21))) (gs1 (gSb (mVar 7) (mK (.int 25))) (gs1 (gSb (mVar 7) (mK (.int 26))) gs0))))))
    (mSeq (mFor (mIt (mTup (mCons (mTup (mCons (mK (.int 0)) (mCons (mVar 5) mNil))) (mCons (mTup (mCons (mK (.int 3)) (mCons (mVar 6) mNil))) mNil)))) (gTp 2 (gs1 (gN 8) (gs1 (gN 9) gs0))) B_law_1)
    (mFor (mEn (mCons (mVar 5) mNil)) (gTp 2 (gs1 (gN 11) (gs1 (gN 12) gs0))) B_law_2))))))) s h := rfl
noncomputable def F_law : MC := mFun none 1 16
    (mSeq (mSet 1 (mLst false (mCons (mK (.str "")) (mCons (mK (.str "x")) (mCons (mK (.str "a b")) (mCons (mK .non) (mCons (mK (.bl true)) (mCons (mK (.bl false)) (mCons (mK (.int 0)) (mCons (mK (.int 7)) (mCons (mNeg (mK (.int 3))) (mCons (mLst false (mCons (mK (.str "a")) mNil)) (mCons (mTup (mCons (mK (.str "b")) (mCons (mK (.int 1)) mNil))) (mCons (mTup mNil) (mCons (mLst false mNil) (mCons (mLst false (mCons (mLst false (mCons (mK (.int 1)) mNil)) (mCons (mTup (mCons (mK (.str "c")) mNil)) mNil))) (mCons (mOp gPow (mK (.int 10)) (mK (.int 29))) mNil)))))))))))))))))
    (mSeq (mFor (mR1 (mCons (mCB (on2 fMax) (mCons (mK (.int 1)) (mCons (mCB (on2 fMin) (mCons (mK (.int 3)) (mCons (mCB (on1 fLen) (mCons (mVar 0) mNil)) mNil))) mNil))) mNil)) (gN 2) B_law_3)
    (mRet (mK (.bl true)))))
end L
set_option Elab.async false
set_option linter.all false
set_option maxRecDepth 100000
set_option maxHeartbeats 4000000
namespace L
open PySem PySem.Spec L2 G M
def topS (i : Nat) : Stmt := PySem.Challenge.pw_rowsinplace_k90_errors_made.main.body.getD i (.Pass ⟨0, 0, 0, 0⟩)
abbrev s__law_bag : Stmt := topS 31
theorem sc__law_bag : FnScope ["_law_script", "_law_at", "_law_cell", "_law_digits"] ["_law_script", "_law_at"] (defScope s__law_bag) := ⟨rfl, rfl, rfl, by decide +kernel, rfl, by decide +kernel, by decide +kernel⟩
abbrev s__law_draw : Stmt := topS 32
theorem sc__law_draw : FnScope ["_law_bag_here", "_law_many", "_law_digit", "_law_mixed"] ["_law_bag_here", "_law_many"] (defScope s__law_draw) := ⟨rfl, rfl, rfl, by decide +kernel, rfl, by decide +kernel, by decide +kernel⟩
abbrev s__law_of : Stmt := topS 33
theorem sc__law_of : FnScope ["_law_bag_here", "_law_some"] ["_law_bag_here", "_law_some"] (defScope s__law_of) := ⟨rfl, rfl, rfl, by decide +kernel, rfl, by decide +kernel, by decide +kernel⟩
abbrev s__law_made : Stmt := topS 34
theorem sc__law_made : FnScope ["_law_a", "_law_b", "_law_c", "_law_found"] ["_law_a", "_law_b", "_law_c"] (defScope s__law_made) := ⟨rfl, rfl, rfl, by decide +kernel, rfl, by decide +kernel, by decide +kernel⟩
abbrev s__law_told : Stmt := topS 35
theorem sc__law_told : FnScope ["_law_made_here", "_law_found"] ["_law_made_here"] (defScope s__law_told) := ⟨rfl, rfl, rfl, by decide +kernel, rfl, by decide +kernel, by decide +kernel⟩
abbrev s__law_classes : Stmt := topS 36
theorem sc__law_classes : FnScope ["_law_e", "_law_found"] ["_law_e"] (defScope s__law_classes) := ⟨rfl, rfl, rfl, by decide +kernel, rfl, by decide +kernel, by decide +kernel⟩
abbrev s_law : Stmt := topS 37
theorem sc_law : FnScope ["_law_script", "_law_odd", "_law_at", "_law_bag_here", "_law_some", "_law_made_here", "_law_others", "_law_many", "_law_side", "_law_errors", "_law_wanted", "_law_k", "_law_e", "_law_bases", "_law_turn", "_law_count", "_law_j"] ["_law_script"] (defScope s_law) := ⟨rfl, rfl, rfl, by decide +kernel, rfl, by decide +kernel, by decide +kernel⟩
structure Txt (P : Program) (K : PySem.W.Frag) (mg : Str → Option Value) : Prop where
  b_len : mg "len" = none
  b_abs : mg "abs" = none
  b_int : mg "int" = none
  b_super : mg "super" = none
  b_isinstance : mg "isinstance" = none
  b_min : mg "min" = none
  b_max : mg "max" = none
  b_range : mg "range" = none
  b_repr : mg "repr" = none
  b_enumerate : mg "enumerate" = none
  b_LookupError : mg "LookupError" = none
  b_ValueError : mg "ValueError" = none
  e_Twice : EInfG P K mg "Twice" ["row"]
  e_NoInverse : EInfG P K mg "NoInverse" ["slide"]
  e_BadSlide : EInfG P K mg "BadSlide" ["index"]
  e_BadPlace : EInfG P K mg "BadPlace" ["place"]
  e_BadName : EInfG P K mg "BadName" ["name"]
  e_NoHandler : EInfG P K mg "NoHandler" ["name"]
  e_NoPlace : EInfG P K mg "NoPlace" ["lst", "place"]
  e_NoRow : EInfG P K mg "NoRow" ["row"]
  e_BadWorld : EInfG P K mg "BadWorld" ["world"]
  e_BadText : EInfG P K mg "BadText" ["index"]
  e_BadStep : EInfG P K mg "BadStep" ["index"]
  e_BadLine : EInfG P K mg "BadLine" ["line"]
  e_BadVisit : EInfG P K mg "BadVisit" ["visit"]
  e_BadCall : EInfG P K mg "BadCall" ["argument"]
  e_BadOperation : EInfG P K mg "BadOperation" ["op"]
  e_BadPair : EInfG P K mg "BadPair" ["first", "second"]
  e_BadOrder : EInfG P K mg "BadOrder" ["order"]
  e_OtherOperation : EInfG P K mg "OtherOperation" ["op"]
  e_BadKind : EInfG P K mg "BadKind" ["kind"]
  e_BadBound : EInfG P K mg "BadBound" ["index"]
  e_BadSpot : EInfG P K mg "BadSpot" ["spot"]
  e_BadNumber : EInfG P K mg "BadNumber" ["name"]
  e_CallFailed : EInfG P K mg "CallFailed" ["index", "reason"]
  e_Clash : EInfG P K mg "Clash" ["step", "row", "other"]
  e_TooMany : EInfG P K mg "TooMany" ["limit"]
  e_BadMend : EInfG P K mg "BadMend" ["mend"]
  e_BadRule : EInfG P K mg "BadRule" ["rule"]
  c_BadName : ∃ E, mg "BadName" = some (.ref E)
  c_NoHandler : ∃ E, mg "NoHandler" = some (.ref E)
  c_NoPlace : ∃ E, mg "NoPlace" = some (.ref E)
  c_NoRow : ∃ E, mg "NoRow" = some (.ref E)
  c_Twice : ∃ E, mg "Twice" = some (.ref E)
  c_NoInverse : ∃ E, mg "NoInverse" = some (.ref E)
  c_BadSlide : ∃ E, mg "BadSlide" = some (.ref E)
  c_BadPlace : ∃ E, mg "BadPlace" = some (.ref E)
  c_BadVisit : ∃ E, mg "BadVisit" = some (.ref E)
  c_BadCall : ∃ E, mg "BadCall" = some (.ref E)
  c_BadOperation : ∃ E, mg "BadOperation" = some (.ref E)
  c_BadWorld : ∃ E, mg "BadWorld" = some (.ref E)
  c_BadText : ∃ E, mg "BadText" = some (.ref E)
  c_BadStep : ∃ E, mg "BadStep" = some (.ref E)
  c_BadLine : ∃ E, mg "BadLine" = some (.ref E)
  c_BadBound : ∃ E, mg "BadBound" = some (.ref E)
  c_BadSpot : ∃ E, mg "BadSpot" = some (.ref E)
  c_BadNumber : ∃ E, mg "BadNumber" = some (.ref E)
  c_BadOrder : ∃ E, mg "BadOrder" = some (.ref E)
  c_OtherOperation : ∃ E, mg "OtherOperation" = some (.ref E)
  c_BadKind : ∃ E, mg "BadKind" = some (.ref E)
  c_TooMany : ∃ E, mg "TooMany" = some (.ref E)
  c_BadMend : ∃ E, mg "BadMend" = some (.ref E)
  c_BadRule : ∃ E, mg "BadRule" = some (.ref E)
  c_BadPair : ∃ E, mg "BadPair" = some (.ref E)
  c_CallFailed : ∃ E, mg "CallFailed" = some (.ref E)
  c_Clash : ∃ E, mg "Clash" = some (.ref E)
  c_MissingError : ∃ E, mg "MissingError" = some (.ref E)
  c_PlaceError : ∃ E, mg "PlaceError" = some (.ref E)
  tb : KTab K mg kinO ∧ KTaB K mg kinX ∧ Sub K mg subE
theorem Txt.ers {P : Program} {K : PySem.W.Frag} {mg : Str → Option Value} (T : Txt P K mg) : Ers P K mg errTab := ErsL.ers (.cons T.e_NoRow (.cons T.e_NoPlace (.cons T.e_NoHandler (.cons T.e_BadName (.cons T.e_BadPlace (.cons T.e_BadSlide (.cons T.e_NoInverse (.cons T.e_Twice (.cons T.e_BadOperation (.cons T.e_BadCall (.cons T.e_BadVisit (.cons T.e_BadLine (.cons T.e_BadStep (.cons T.e_BadText (.cons T.e_BadWorld (.cons T.e_BadNumber (.cons T.e_BadSpot (.cons T.e_BadBound (.cons T.e_BadKind (.cons T.e_OtherOperation (.cons T.e_BadOrder (.cons T.e_BadPair (.cons T.e_BadRule (.cons T.e_BadMend (.cons T.e_TooMany (.cons T.e_Clash (.cons T.e_CallFailed .nil)))))))))))))))))))))))))))
section
variable {P : Program} {w : World} {K : PySem.W.Frag} {mg : Str → Option Value} {base : Heap} {f : Addr} {fd : FuncData}
theorem ok__law_bag (F : Dfn K mg "_law_bag" s__law_bag f fd) (T : Txt P K mg) : CalM P w K mg base 1 "_law_bag" F__law_bag :=
  cal_mk F sc__law_bag rfl rfl (fun _ _ _ _ _ _ us hl => match us, hl with | [_, _], _ => rfl) fun cdv A o s H E hg hr =>
    (m_ss (m_set (m_if (m_tcmp o_lt (m_var (pv 1)) (m_cb q_len (by rfl) T.b_len (by decide +kernel) (m_cons (m_var (pv 0)) m_nil))) (m_ix o_ix (m_var (pv 0)) (m_var (pv 1))) m_int) (fun h => ps_set (i := 2) sc__law_bag.nd rfl (Or.inl rfl) h))
    (m_ss (m_set (m_if (m_tcmp o_ge (m_cb q_abs (by rfl) T.b_abs (by decide +kernel) (m_cons (m_var (pv 2)) m_nil)) (m_bin o_pow m_int m_int)) (m_cb q_abs (by rfl) T.b_abs (by decide +kernel) (m_cons (m_var (pv 2)) m_nil)) m_int) (fun h => ps_set (i := 3) sc__law_bag.nd rfl (Or.inl rfl) h))
    (m_ss1 (m_ret (m_lst true (m_cons (m_var (pv 3)) (m_cons (m_bin (o_add false) (m_bin (o_add false) (m_bin o_mod (m_ct q_int (by rfl) T.b_int (by decide +kernel) (m_cons (m_var (pv 2)) m_nil)) m_int) (m_bin (o_mul false) m_int (m_var (pv 1)))) m_int) (m_cons m_int m_nil))))))))
theorem ok__law_draw (F : Dfn K mg "_law_draw" s__law_draw f fd) (T : Txt P K mg) : CalM P w K mg base 1 "_law_draw" F__law_draw :=
  cal_mk F sc__law_draw rfl rfl (fun _ _ _ _ _ _ us hl => match us, hl with | [_, _], _ => rfl) fun cdv A o s H E hg hr =>
    (m_ss (m_ifS (m_tcmp o_gt (m_ix o_ix (m_var (pv 0)) m_int) m_int) (m_ss (m_set (m_bin o_mod (m_ct q_int (by rfl) T.b_int (by decide +kernel) (m_cons (m_ix o_ix (m_var (pv 0)) m_int) m_nil)) (m_var (pv 1))) (fun h => ps_set (i := 2) sc__law_draw.nd rfl (Or.inl rfl) h))
    (m_ss (m_asg (m_bin o_div (m_ix o_ix (m_var (pv 0)) m_int) (m_var (pv 1))) (m_sub (js := []) (m_var (pv 0)) m_int (fun h1 h2 => pg_sub h1 h2 set_list)) (fun h1 h2 => ps_asg h1 h2))
    (m_ss1 (m_ret (m_var (pv 2)))))) m_ss0)
    (m_ss (m_asg (m_bin (o_add false) (m_ix o_ix (m_var (pv 0)) m_int) m_int) (m_sub (js := []) (m_var (pv 0)) m_int (fun h1 h2 => pg_sub h1 h2 set_list)) (fun h1 h2 => ps_asg h1 h2))
    (m_ss (m_set (m_bin (o_add false) (m_bin o_pow (m_bin (o_add false) (m_ix o_ix (m_var (pv 0)) m_int) (m_bin (o_mul false) m_int (m_ix o_ix (m_var (pv 0)) m_int))) m_int) (m_bin (o_mul false) m_int (m_ix o_ix (m_var (pv 0)) m_int))) (fun h => ps_set (i := 3) sc__law_draw.nd rfl (Or.inl rfl) h))
    (m_ss (m_set (m_bin o_mod (m_ct q_int (by rfl) T.b_int (by decide +kernel) (m_cons (m_var (pv 3)) m_nil)) m_int) (fun h => ps_set (i := 3) sc__law_draw.nd rfl (Or.inl rfl) h))
    (m_ss (m_set (m_bin o_mod (m_ct q_int (by rfl) T.b_int (by decide +kernel) (m_cons (m_bin o_pow (m_bin (o_add false) (m_var (pv 3)) (m_bin (o_mul false) m_int (m_ix o_ix (m_var (pv 0)) m_int))) m_int) m_nil)) m_int) (fun h => ps_set (i := 3) sc__law_draw.nd rfl (Or.inl rfl) h))
    (m_ss1 (m_ret (m_bin o_mod (m_ct q_int (by rfl) T.b_int (by decide +kernel) (m_cons (m_bin o_div (m_var (pv 3)) m_int) m_nil)) (m_var (pv 1))))))))))
theorem ok__law_of (F : Dfn K mg "_law_of" s__law_of f fd) (T : Txt P K mg) (C__law_draw : CalM P w K mg base 1 "_law_draw" F__law_draw) : CalM P w K mg base 2 "_law_of" F__law_of :=
  cal_mk F sc__law_of rfl rfl (fun _ _ _ _ _ _ us hl => match us, hl with | [_, _], _ => rfl) fun cdv A o s H E hg hr =>
    (m_ss1 (m_ret (m_ix o_ix (m_var (pv 1)) (m_call C__law_draw hg hr (by decide) (by rfl) (takes_of rfl rfl rfl rfl) (m_cons (m_var (pv 0)) (m_cons (m_cb q_len (by rfl) T.b_len (by decide +kernel) (m_cons (m_var (pv 1)) m_nil)) m_nil))))))
theorem ok__law_made (F : Dfn K mg "_law_made" s__law_made f fd) (T : Txt P K mg) : CalM P w K mg base 2 "_law_made" F__law_made :=
  cal_mk F sc__law_made rfl rfl (fun _ _ _ _ _ _ us hl => match us, hl with | [_, _, _], _ => rfl) fun cdv A o s H E hg hr =>
    (m_ss (m_set (m_lst false (m_cons (m_mkE T.e_NoRow T.b_super hr (by decide) (by rfl) (m_cons (m_var (pv 0)) m_nil)) (m_cons (m_mkE T.e_NoPlace T.b_super hr (by decide) (by rfl) (m_cons (m_var (pv 0)) (m_cons (m_var (pv 1)) m_nil))) (m_cons (m_mkE T.e_NoHandler T.b_super hr (by decide) (by rfl) (m_cons (m_var (pv 0)) m_nil)) (m_cons (m_mkE T.e_BadName T.b_super hr (by decide) (by rfl) (m_cons (m_var (pv 0)) m_nil)) (m_cons (m_mkE T.e_BadPlace T.b_super hr (by decide) (by rfl) (m_cons (m_var (pv 0)) m_nil)) (m_cons (m_mkE T.e_BadSlide T.b_super hr (by decide) (by rfl) (m_cons (m_var (pv 0)) m_nil)) (m_cons (m_mkE T.e_NoInverse T.b_super hr (by decide) (by rfl) (m_cons (m_var (pv 0)) m_nil)) (m_cons (m_mkE T.e_Twice T.b_super hr (by decide) (by rfl) (m_cons (m_var (pv 0)) m_nil)) m_nil))))))))) (fun h => ps_set (i := 3) sc__law_made.nd rfl (Or.inl rfl) h))
    (m_ss (m_set (m_bin (o_add false) (m_var (pv 3)) (m_lst false (m_cons (m_mkE T.e_BadOperation T.b_super hr (by decide) (by rfl) (m_cons (m_var (pv 0)) m_nil)) (m_cons (m_mkE T.e_BadCall T.b_super hr (by decide) (by rfl) (m_cons (m_var (pv 0)) m_nil)) (m_cons (m_mkE T.e_BadVisit T.b_super hr (by decide) (by rfl) (m_cons (m_var (pv 0)) m_nil)) (m_cons (m_mkE T.e_BadLine T.b_super hr (by decide) (by rfl) (m_cons (m_var (pv 0)) m_nil)) (m_cons (m_mkE T.e_BadStep T.b_super hr (by decide) (by rfl) (m_cons (m_var (pv 0)) m_nil)) (m_cons (m_mkE T.e_BadText T.b_super hr (by decide) (by rfl) (m_cons (m_var (pv 0)) m_nil)) (m_cons (m_mkE T.e_BadWorld T.b_super hr (by decide) (by rfl) (m_cons (m_var (pv 0)) m_nil)) m_nil))))))))) (fun h => ps_set (i := 3) sc__law_made.nd rfl (Or.inl rfl) h))
    (m_ss (m_set (m_bin (o_add false) (m_var (pv 3)) (m_lst false (m_cons (m_mkE T.e_BadNumber T.b_super hr (by decide) (by rfl) (m_cons (m_var (pv 0)) m_nil)) (m_cons (m_mkE T.e_BadSpot T.b_super hr (by decide) (by rfl) (m_cons (m_var (pv 0)) m_nil)) (m_cons (m_mkE T.e_BadBound T.b_super hr (by decide) (by rfl) (m_cons (m_var (pv 0)) m_nil)) (m_cons (m_mkE T.e_BadKind T.b_super hr (by decide) (by rfl) (m_cons (m_var (pv 0)) m_nil)) (m_cons (m_mkE T.e_OtherOperation T.b_super hr (by decide) (by rfl) (m_cons (m_var (pv 0)) m_nil)) (m_cons (m_mkE T.e_BadOrder T.b_super hr (by decide) (by rfl) (m_cons (m_var (pv 0)) m_nil)) (m_cons (m_mkE T.e_BadPair T.b_super hr (by decide) (by rfl) (m_cons (m_var (pv 0)) (m_cons (m_var (pv 1)) m_nil))) m_nil))))))))) (fun h => ps_set (i := 3) sc__law_made.nd rfl (Or.inl rfl) h))
    (m_ss1 (m_ret (m_bin (o_add false) (m_var (pv 3)) (m_lst false (m_cons (m_mkE T.e_BadRule T.b_super hr (by decide) (by rfl) (m_cons (m_var (pv 0)) m_nil)) (m_cons (m_mkE T.e_BadMend T.b_super hr (by decide) (by rfl) (m_cons (m_var (pv 0)) m_nil)) (m_cons (m_mkE T.e_TooMany T.b_super hr (by decide) (by rfl) (m_cons (m_var (pv 0)) m_nil)) (m_cons (m_mkE T.e_Clash T.b_super hr (by decide) (by rfl) (m_cons (m_var (pv 0)) (m_cons (m_var (pv 1)) (m_cons (m_var (pv 2)) m_nil)))) (m_cons (m_mkE T.e_CallFailed T.b_super hr (by decide) (by rfl) (m_cons (m_var (pv 0)) (m_cons (m_var (pv 1)) m_nil))) m_nil))))))))))))
theorem ok__law_told (F : Dfn K mg "_law_told" s__law_told f fd) (T : Txt P K mg) : CalM P w K mg base 1 "_law_told" F__law_told :=
  cal_mk F sc__law_told rfl rfl (fun _ _ _ _ _ _ us hl => match us, hl with | [_], _ => rfl) fun cdv A o s H E hg hr =>
    (m_ss (m_set (m_lst false (m_cons (m_lst false (m_cons (m_erF T.ers (m_ix o_ix (m_var (pv 0)) m_int)) m_nil)) (m_cons (m_lst false (m_cons (m_erF T.ers (m_ix o_ix (m_var (pv 0)) m_int)) (m_cons (m_erF T.ers (m_ix o_ix (m_var (pv 0)) m_int)) m_nil))) (m_cons (m_lst false (m_cons (m_erF T.ers (m_ix o_ix (m_var (pv 0)) m_int)) m_nil)) (m_cons (m_lst false (m_cons (m_erF T.ers (m_ix o_ix (m_var (pv 0)) m_int)) m_nil)) (m_cons (m_lst false (m_cons (m_erF T.ers (m_ix o_ix (m_var (pv 0)) m_int)) m_nil)) m_nil)))))) (fun h => ps_set (i := 1) sc__law_told.nd rfl (Or.inl rfl) h))
    (m_ss (m_set (m_bin (o_add false) (m_var (pv 1)) (m_lst false (m_cons (m_lst false (m_cons (m_erF T.ers (m_ix o_ix (m_var (pv 0)) m_int)) m_nil)) (m_cons (m_lst false (m_cons (m_erF T.ers (m_ix o_ix (m_var (pv 0)) m_int)) m_nil)) (m_cons (m_lst false (m_cons (m_erF T.ers (m_ix o_ix (m_var (pv 0)) m_int)) m_nil)) (m_cons (m_lst false (m_cons (m_erF T.ers (m_ix o_ix (m_var (pv 0)) m_int)) m_nil)) (m_cons (m_lst false (m_cons (m_erF T.ers (m_ix o_ix (m_var (pv 0)) m_int)) m_nil)) m_nil))))))) (fun h => ps_set (i := 1) sc__law_told.nd rfl (Or.inl rfl) h))
    (m_ss (m_set (m_bin (o_add false) (m_var (pv 1)) (m_lst false (m_cons (m_lst false (m_cons (m_erF T.ers (m_ix o_ix (m_var (pv 0)) m_int)) m_nil)) (m_cons (m_lst false (m_cons (m_erF T.ers (m_ix o_ix (m_var (pv 0)) m_int)) m_nil)) (m_cons (m_lst false (m_cons (m_erF T.ers (m_ix o_ix (m_var (pv 0)) m_int)) m_nil)) (m_cons (m_lst false (m_cons (m_erF T.ers (m_ix o_ix (m_var (pv 0)) m_int)) m_nil)) (m_cons (m_lst false (m_cons (m_erF T.ers (m_ix o_ix (m_var (pv 0)) m_int)) m_nil)) m_nil))))))) (fun h => ps_set (i := 1) sc__law_told.nd rfl (Or.inl rfl) h))
    (m_ss (m_set (m_bin (o_add false) (m_var (pv 1)) (m_lst false (m_cons (m_lst false (m_cons (m_erF T.ers (m_ix o_ix (m_var (pv 0)) m_int)) m_nil)) (m_cons (m_lst false (m_cons (m_erF T.ers (m_ix o_ix (m_var (pv 0)) m_int)) m_nil)) (m_cons (m_lst false (m_cons (m_erF T.ers (m_ix o_ix (m_var (pv 0)) m_int)) m_nil)) (m_cons (m_lst false (m_cons (m_erF T.ers (m_ix o_ix (m_var (pv 0)) m_int)) m_nil)) (m_cons (m_lst false (m_cons (m_erF T.ers (m_ix o_ix (m_var (pv 0)) m_int)) m_nil)) m_nil))))))) (fun h => ps_set (i := 1) sc__law_told.nd rfl (Or.inl rfl) h))
    (m_ss (m_set (m_bin (o_add false) (m_var (pv 1)) (m_lst false (m_cons (m_lst false (m_cons (m_erF T.ers (m_ix o_ix (m_var (pv 0)) m_int)) m_nil)) (m_cons (m_lst false (m_cons (m_erF T.ers (m_ix o_ix (m_var (pv 0)) m_int)) (m_cons (m_erF T.ers (m_ix o_ix (m_var (pv 0)) m_int)) m_nil))) (m_cons (m_lst false (m_cons (m_erF T.ers (m_ix o_ix (m_var (pv 0)) m_int)) m_nil)) (m_cons (m_lst false (m_cons (m_erF T.ers (m_ix o_ix (m_var (pv 0)) m_int)) m_nil)) m_nil)))))) (fun h => ps_set (i := 1) sc__law_told.nd rfl (Or.inl rfl) h))
    (m_ss (m_set (m_bin (o_add false) (m_var (pv 1)) (m_lst false (m_cons (m_lst false (m_cons (m_erF T.ers (m_ix o_ix (m_var (pv 0)) m_int)) m_nil)) (m_cons (m_lst false (m_cons (m_erF T.ers (m_ix o_ix (m_var (pv 0)) m_int)) (m_cons (m_erF T.ers (m_ix o_ix (m_var (pv 0)) m_int)) (m_cons (m_erF T.ers (m_ix o_ix (m_var (pv 0)) m_int)) m_nil)))) m_nil)))) (fun h => ps_set (i := 1) sc__law_told.nd rfl (Or.inl rfl) h))
    (m_ss1 (m_ret (m_bin (o_add false) (m_var (pv 1)) (m_lst false (m_cons (m_lst false (m_cons (m_erF T.ers (m_ix o_ix (m_var (pv 0)) m_int)) (m_cons (m_erF T.ers (m_ix o_ix (m_var (pv 0)) m_int)) m_nil))) m_nil)))))))))))
theorem ok__law_classes (F : Dfn K mg "_law_classes" s__law_classes f fd) (T : Txt P K mg) : CalM P w K mg base 1 "_law_classes" F__law_classes :=
  cal_mk F sc__law_classes rfl rfl (fun _ _ _ _ _ _ us hl => match us, hl with | [_], _ => rfl) fun cdv A o s H E hg hr =>
    (m_ss (m_set (m_lst false (m_cons (m_isEO T.ers T.tb.1 T.c_NoRow (m_var (pv 0)) (by rfl) T.b_isinstance (by rfl) (by decide)) (m_cons (m_isEO T.ers T.tb.1 T.c_NoPlace (m_var (pv 0)) (by rfl) T.b_isinstance (by rfl) (by decide)) (m_cons (m_isEO T.ers T.tb.1 T.c_NoHandler (m_var (pv 0)) (by rfl) T.b_isinstance (by rfl) (by decide)) (m_cons (m_isEO T.ers T.tb.1 T.c_BadName (m_var (pv 0)) (by rfl) T.b_isinstance (by rfl) (by decide)) m_nil))))) (fun h => ps_set (i := 1) sc__law_classes.nd rfl (Or.inl rfl) h))
    (m_ss (m_set (m_bin (o_add false) (m_var (pv 1)) (m_lst false (m_cons (m_isEO T.ers T.tb.1 T.c_BadPlace (m_var (pv 0)) (by rfl) T.b_isinstance (by rfl) (by decide)) (m_cons (m_isEO T.ers T.tb.1 T.c_BadSlide (m_var (pv 0)) (by rfl) T.b_isinstance (by rfl) (by decide)) (m_cons (m_isEO T.ers T.tb.1 T.c_NoInverse (m_var (pv 0)) (by rfl) T.b_isinstance (by rfl) (by decide)) (m_cons (m_isEO T.ers T.tb.1 T.c_Twice (m_var (pv 0)) (by rfl) T.b_isinstance (by rfl) (by decide)) m_nil)))))) (fun h => ps_set (i := 1) sc__law_classes.nd rfl (Or.inl rfl) h))
    (m_ss (m_set (m_bin (o_add false) (m_var (pv 1)) (m_lst false (m_cons (m_isEO T.ers T.tb.1 T.c_BadOperation (m_var (pv 0)) (by rfl) T.b_isinstance (by rfl) (by decide)) (m_cons (m_isEO T.ers T.tb.1 T.c_BadCall (m_var (pv 0)) (by rfl) T.b_isinstance (by rfl) (by decide)) (m_cons (m_isEO T.ers T.tb.1 T.c_BadVisit (m_var (pv 0)) (by rfl) T.b_isinstance (by rfl) (by decide)) m_nil))))) (fun h => ps_set (i := 1) sc__law_classes.nd rfl (Or.inl rfl) h))
    (m_ss (m_set (m_bin (o_add false) (m_var (pv 1)) (m_lst false (m_cons (m_isEO T.ers T.tb.1 T.c_BadLine (m_var (pv 0)) (by rfl) T.b_isinstance (by rfl) (by decide)) (m_cons (m_isEO T.ers T.tb.1 T.c_BadStep (m_var (pv 0)) (by rfl) T.b_isinstance (by rfl) (by decide)) (m_cons (m_isEO T.ers T.tb.1 T.c_BadText (m_var (pv 0)) (by rfl) T.b_isinstance (by rfl) (by decide)) (m_cons (m_isEO T.ers T.tb.1 T.c_BadWorld (m_var (pv 0)) (by rfl) T.b_isinstance (by rfl) (by decide)) m_nil)))))) (fun h => ps_set (i := 1) sc__law_classes.nd rfl (Or.inl rfl) h))
    (m_ss (m_set (m_bin (o_add false) (m_var (pv 1)) (m_lst false (m_cons (m_isEO T.ers T.tb.1 T.c_BadNumber (m_var (pv 0)) (by rfl) T.b_isinstance (by rfl) (by decide)) (m_cons (m_isEO T.ers T.tb.1 T.c_BadSpot (m_var (pv 0)) (by rfl) T.b_isinstance (by rfl) (by decide)) (m_cons (m_isEO T.ers T.tb.1 T.c_BadBound (m_var (pv 0)) (by rfl) T.b_isinstance (by rfl) (by decide)) m_nil))))) (fun h => ps_set (i := 1) sc__law_classes.nd rfl (Or.inl rfl) h))
    (m_ss (m_set (m_bin (o_add false) (m_var (pv 1)) (m_lst false (m_cons (m_isEO T.ers T.tb.1 T.c_BadKind (m_var (pv 0)) (by rfl) T.b_isinstance (by rfl) (by decide)) (m_cons (m_isEO T.ers T.tb.1 T.c_OtherOperation (m_var (pv 0)) (by rfl) T.b_isinstance (by rfl) (by decide)) (m_cons (m_isEO T.ers T.tb.1 T.c_BadOrder (m_var (pv 0)) (by rfl) T.b_isinstance (by rfl) (by decide)) m_nil))))) (fun h => ps_set (i := 1) sc__law_classes.nd rfl (Or.inl rfl) h))
    (m_ss (m_set (m_bin (o_add false) (m_var (pv 1)) (m_lst false (m_cons (m_isEO T.ers T.tb.1 T.c_BadPair (m_var (pv 0)) (by rfl) T.b_isinstance (by rfl) (by decide)) (m_cons (m_isEO T.ers T.tb.1 T.c_BadRule (m_var (pv 0)) (by rfl) T.b_isinstance (by rfl) (by decide)) (m_cons (m_isEO T.ers T.tb.1 T.c_BadMend (m_var (pv 0)) (by rfl) T.b_isinstance (by rfl) (by decide)) (m_cons (m_isEO T.ers T.tb.1 T.c_TooMany (m_var (pv 0)) (by rfl) T.b_isinstance (by rfl) (by decide)) m_nil)))))) (fun h => ps_set (i := 1) sc__law_classes.nd rfl (Or.inl rfl) h))
    (m_ss1 (m_ret (m_bin (o_add false) (m_var (pv 1)) (m_lst false (m_cons (m_isEO T.ers T.tb.1 T.c_Clash (m_var (pv 0)) (by rfl) T.b_isinstance (by rfl) (by decide)) (m_cons (m_isEO T.ers T.tb.1 T.c_CallFailed (m_var (pv 0)) (by rfl) T.b_isinstance (by rfl) (by decide)) m_nil)))))))))))))
theorem ok_law (F : Dfn K mg "law" s_law f fd) (T : Txt P K mg) (C__law_bag : CalM P w K mg base 1 "_law_bag" F__law_bag) (C__law_draw : CalM P w K mg base 1 "_law_draw" F__law_draw) (C__law_of : CalM P w K mg base 2 "_law_of" F__law_of) (C__law_made : CalM P w K mg base 2 "_law_made" F__law_made) (C__law_told : CalM P w K mg base 1 "_law_told" F__law_told) (C__law_classes : CalM P w K mg base 1 "_law_classes" F__law_classes) : CalM P w K mg base 3 "law" F_law :=
  cal_mk F sc_law rfl rfl (fun _ _ _ _ _ _ us hl => match us, hl with | [_], _ => rfl) fun cdv A o s H E hg hr =>
    (m_ss (m_set (m_lst false (m_cons m_str (m_cons m_str (m_cons m_str (m_cons m_non (m_cons m_bl (m_cons m_bl (m_cons m_int (m_cons m_int (m_cons (m_neg m_int) (m_cons (m_lst false (m_cons m_str m_nil)) (m_cons (m_tup (m_cons m_str (m_cons m_int m_nil))) (m_cons (m_tup m_nil) (m_cons (m_lst false m_nil) (m_cons (m_lst false (m_cons (m_lst false (m_cons m_int m_nil)) (m_cons (m_tup (m_cons m_str m_nil)) m_nil))) (m_cons (m_bin o_pow m_int m_int) m_nil)))))))))))))))) (fun h => ps_set (i := 1) sc_law.nd rfl (Or.inr rfl) h))
    (m_ss (m_for (m_r1 (by rfl) T.b_range (m_cons (m_cb (q_max rfl) (by rfl) T.b_max (by decide +kernel) (m_cons m_int (m_cons (m_cb (q_min rfl) (by rfl) T.b_min (by decide +kernel) (m_cons m_int (m_cons (m_cb q_len (by rfl) T.b_len (by decide +kernel) (m_cons (m_var (pv 0)) m_nil)) m_nil))) m_nil))) m_nil)) (m_gn (js := [2]) (pg_name (i := 2) sc_law.nd rfl (Or.inl rfl)) (by decide)) (m_ss (m_set (m_call C__law_bag hg hr (by decide) (by rfl) (takes_of rfl rfl rfl rfl) (m_cons (m_var (pv 0)) (m_cons (m_var (pv 2)) m_nil))) (fun h => ps_set (i := 3) sc_law.nd rfl (Or.inr rfl) h))
    (m_ss (m_set (m_lc false (own := [("_law_turn", 14)]) (by decide) (m_r1 (by rfl) T.b_range (m_cons m_int m_nil)) (fun h1 => pe_lc (own := [("_law_turn", 14)]) (by rfl) sc_law.nd h1 (blkOk_by (own := [("_law_turn", 14)]) (N := ["_law_script", "_law_odd", "_law_at", "_law_bag_here", "_law_some", "_law_made_here", "_law_others", "_law_many", "_law_side", "_law_errors", "_law_wanted", "_law_k", "_law_e", "_law_bases", "_law_turn", "_law_count", "_law_j"]) (sc := defScope s_law) (by decide +kernel)) (fun _ _ _ _ _ => (m_gn (js := [14]) (pg_name (i := 14) sc_law.nd rfl (Or.inl rfl)) (by decide))) (fun _ _ _ _ _ => m_yes) (fun _ _ _ _ _ => (m_call C__law_of hg hr (by decide) (by rfl) takes0 (m_cons (m_var (pv 3)) (m_cons (m_bin (o_add false) (m_var (pv 1)) (m_lst false (m_cons (m_call C__law_draw hg hr (by decide) (by rfl) takes0 (m_cons (m_var (pv 3)) (m_cons (m_bin o_pow m_int m_int) m_nil))) m_nil))) m_nil)))))) (fun h => ps_set (i := 4) sc_law.nd rfl (Or.inr rfl) h))
    (m_ss (m_par (m_cons (m_call C__law_made hg hr (by decide) (by rfl) (takes_of rfl rfl rfl rfl) (m_cons (m_ix o_ix (m_var (pv 4)) m_int) (m_cons (m_ix o_ix (m_var (pv 4)) m_int) (m_cons (m_ix o_ix (m_var (pv 4)) m_int) m_nil)))) (m_cons (m_call C__law_made hg hr (by decide) (by rfl) (takes_of rfl rfl rfl rfl) (m_cons (m_ix o_ix (m_var (pv 4)) m_int) (m_cons (m_ix o_ix (m_var (pv 4)) m_int) (m_cons (m_ix o_ix (m_var (pv 4)) m_int) m_nil)))) m_nil)) (fun h => ps_par (i := 5) (j := 6) (by rfl) sc_law.nd rfl rfl (by decide) rfl rfl h (by rfl)))
    (m_ss (m_set (m_bin (o_mul true) (m_lst false (m_cons m_int m_nil)) m_int) (fun h => ps_set (i := 7) sc_law.nd rfl (Or.inl rfl) h))
    (m_ss (m_asg (m_tup (m_cons m_int (m_cons m_int (m_cons m_int (m_cons m_int m_nil))))) (m_gt (m_gs1 (m_sub (js := []) (m_var (pv 7)) m_int (fun h1 h2 => pg_sub h1 h2 set_list)) (m_gs1 (m_sub (js := []) (m_var (pv 7)) m_int (fun h1 h2 => pg_sub h1 h2 set_list)) (m_gs1 (m_sub (js := []) (m_var (pv 7)) m_int (fun h1 h2 => pg_sub h1 h2 set_list)) (m_gs1 (m_sub (js := []) (m_var (pv 7)) m_int (fun h1 h2 => pg_sub h1 h2 set_list)) m_gs0 (fun h1 h2 => pgs_cons h1 h2)) (fun h1 h2 => pgs_cons h1 h2)) (fun h1 h2 => pgs_cons h1 h2)) (fun h1 h2 => pgs_cons h1 h2)) rfl) (fun h1 h2 => ps_asg h1 h2))
    (m_ss (m_for (m_it (m_tup (m_cons (m_tup (m_cons m_int (m_cons (m_var (pv 5)) m_nil))) (m_cons (m_tup (m_cons m_int (m_cons (m_var (pv 6)) m_nil))) m_nil)))) (m_gt (m_gs1 (m_gn (js := [8, 9]) (pg_name (i := 8) sc_law.nd rfl (Or.inr rfl)) (by decide)) (m_gs1 (m_gn (js := [8, 9]) (pg_name (i := 9) sc_law.nd rfl (Or.inl rfl)) (by decide)) m_gs0 (fun h1 h2 => pgs_cons h1 h2)) (fun h1 h2 => pgs_cons h1 h2)) rfl) (m_ss (m_setLc false (own := [("_law_count", 15)]) (by decide) (ps_setLc (i := 10) (own := [("_law_count", 15)]) (by rfl) sc_law.nd rfl rfl (sw_true rfl rfl rfl (by decide +kernel)) (m_it (m_var (pv 7))) (blkOk_by (own := [("_law_count", 15)]) (N := ["_law_script", "_law_odd", "_law_at", "_law_bag_here", "_law_some", "_law_made_here", "_law_others", "_law_many", "_law_side", "_law_errors", "_law_wanted", "_law_k", "_law_e", "_law_bases", "_law_turn", "_law_count", "_law_j"]) (sc := defScope s_law) (by decide +kernel)) (fun _ _ _ _ _ => (m_gn (js := [15]) (pg_name (i := 15) sc_law.nd rfl (Or.inl rfl)) (by decide))) (fun _ _ _ _ _ => m_yes) (fun _ _ _ _ _ => (m_sl false (o_sl false) (m_var (pv 4)) (m_ps (m_var (pv 8))) (m_ps (m_bin (o_add false) (m_var (pv 8)) (m_var (pv 15))))))))
    (m_ss1 (m_ifS (m_tcmp (o_ne hr.units) (m_cb (q_repr (k := 2) hg hr.un) (by rfl) T.b_repr (by decide +kernel) (m_cons (m_call C__law_told hg hr (by decide) (by rfl) (takes_of rfl rfl rfl rfl) (m_cons (m_var (pv 9)) m_nil)) m_nil)) (m_cb (q_repr (k := 2) hg hr.un) (by rfl) T.b_repr (by decide +kernel) (m_cons (m_var (pv 10)) m_nil))) (m_ss1 (m_ret m_bl)) m_ss0))) (fun h1 h2 h3 => ps_for (passes_of rfl) rfl h1 h2 h3))
    (m_ss1 (m_for (m_en (by rfl) T.b_enumerate (m_cons (m_var (pv 5)) m_nil)) (m_gt (m_gs1 (m_gn (js := [11, 12]) (pg_name (i := 11) sc_law.nd rfl (Or.inr rfl)) (by decide)) (m_gs1 (m_gn (js := [11, 12]) (pg_name (i := 12) sc_law.nd rfl (Or.inl rfl)) (by decide)) m_gs0 (fun h1 h2 => pgs_cons h1 h2)) (fun h1 h2 => pgs_cons h1 h2)) rfl) (m_ss (m_ifS (m_tcmp (o_ne hr.units) (m_call C__law_classes hg hr (by decide) (by rfl) (takes_of rfl rfl rfl rfl) (m_cons (m_var (pv 12)) m_nil)) (m_lc false (own := [("_law_j", 16)]) (by decide) (m_r1 (by rfl) T.b_range (m_cons m_int m_nil)) (fun h1 => pe_lc (own := [("_law_j", 16)]) (by rfl) sc_law.nd h1 (blkOk_by (own := [("_law_j", 16)]) (N := ["_law_script", "_law_odd", "_law_at", "_law_bag_here", "_law_some", "_law_made_here", "_law_others", "_law_many", "_law_side", "_law_errors", "_law_wanted", "_law_k", "_law_e", "_law_bases", "_law_turn", "_law_count", "_law_j"]) (sc := defScope s_law) (by decide +kernel)) (fun _ _ _ _ _ => (m_gn (js := [16]) (pg_name (i := 16) sc_law.nd rfl (Or.inl rfl)) (by decide))) (fun _ _ _ _ _ => m_yes) (fun _ _ _ _ _ => (m_cmp (o_eq hr.units) (m_var (pv 16)) (m_var (pv 11))))))) (m_ss1 (m_ret m_bl)) m_ss0)
    (m_ss (m_set (m_lst false (m_cons (m_isEO T.ers T.tb.1 T.c_MissingError (m_var (pv 12)) (by rfl) T.b_isinstance (by rfl) (by decide)) (m_cons (m_isEB T.ers T.tb.2.1 (m_var (pv 12)) (by rfl) T.b_isinstance (by rfl) T.b_LookupError (by decide +kernel) (by decide) (by decide)) m_nil))) (fun h => ps_set (i := 13) sc_law.nd rfl (Or.inl rfl) h))
    (m_ss1 (m_ifS (PW.pt (m_tor (m_tcmp (o_ne hr.units) (m_var (pv 13)) (m_lst false (m_cons (m_cmp o_lt (m_var (pv 11)) m_int) (m_cons (m_cmp o_lt (m_var (pv 11)) m_int) m_nil)))) (m_tor (m_tcmp (o_ne hr.units) (m_isEO T.ers T.tb.1 T.c_PlaceError (m_var (pv 12)) (by rfl) T.b_isinstance (by rfl) (by decide)) (m_cmp o_gt (m_var (pv 11)) m_int)) (m_tor1 (m_tcmp (o_ne hr.units) (m_isEB T.ers T.tb.2.1 (m_var (pv 12)) (by rfl) T.b_isinstance (by rfl) T.b_ValueError (by decide +kernel) (by decide) (by decide)) (m_cmp o_gt (m_var (pv 11)) m_int)))))) (m_ss1 (m_ret m_bl)) m_ss0)))) (fun h1 h2 h3 => ps_for (passes_of rfl) rfl h1 h2 h3))))))))) (fun h1 h2 h3 => ps_for (passes_of rfl) rfl h1 h2 h3))
    (m_ss1 (m_ret m_bl))))
end
end L
set_option Elab.async false
set_option linter.all false
set_option maxRecDepth 100000
set_option maxHeartbeats 4000000
namespace L
open PySem PySem.Spec L2 G M
local macro_rules | `(tactic| walk_at "ev") => `(tactic| simp only [e_fun, finR_rt, finR_nx, finR_exc, fin_raw, finX_raw, List.map_cons, List.map_nil, List.replicate_succ, List.replicate_zero, List.cons_append, List.nil_append, List.append_nil, List.length_cons, List.length_nil, Nat.zero_add, Nat.reduceAdd, Nat.reduceLeDiff, Nat.reduceLT, Nat.zero_lt_succ, Nat.add_one_pos,  String.reduceBEq, v_isiS, v_isiI, v_isiB, v_isiT, v_isiL, isiR_some, tyM, subT,
  e_var, getS_val, e_k, e_nil, e_cons, k_cons1, k_cons1x, k_cons2, k_cons2x, e_tup, k_tup, k_tupx, e_lst, k_lst, k_lstx, e_op, k_op1, k_op1x, k_op2, k_op2x, e_test, asB_ok, asB_x, noX_ok, e_chain, k_ch1, k_ch2, k_ch3t, k_ch3f, e_and, k_andt, k_andf, e_or, k_ort, k_orf, e_not, k_not, e_if, k_ift, k_iff,
  e_tand, k_tandt, k_tandf, e_tor, k_tort, k_torf, e_tnot, k_tnot, e_tru, k_tru, k_trux, onRef_lst, blR_t, truR_some, tru_bl, tru_int, tru_lst, tru_tup, e_cb, k_cb, k_cbx, e_on1, e_on2, e_call, k_call, k_callx, e_neg, k_neg, e_lm, k_lm, k_lm2, k_lm2x, e_sm, k_sm, e_pn, e_ps, k_ps, e_sl, k_sl1, k_sl2, k_sl3, e_rev, k_rev,
  e_errF, e_errIs, k_errF, k_errIs, opR_some, e_seq, seqS_nx, seqS_rt, seqS_bk, seqS_ct, seqS_exc, e_nx, e_bk, e_ct, e_drop, k_drop, k_dropx, e_ret, k_ret, k_retx, e_retN, e_ifS, k_ifSt, k_ifSf, k_ifSx, e_set, k_set, k_setx, e_asg, k_asg, k_asgx, k_asg2, e_par, k_par, e_gn, e_gs0, e_gs1, k_gs, e_gtp, e_sb, k_sb1, k_sb2,
  e_raise, k_raise, e_it, k_it, e_for, k_for, run_nil, run_cons, k_turn, k_turnN, k_turnC, k_turnB, k_turnR, k_turnX, src_str, src_tup, src_lst, src_scr, e_try, k_try, k_tryx, k_catch0, k_catchT, k_catchF, k_goneR,
  v_newT, v_newL, v_newR, v_addI, v_addL, v_addT, v_addRL, v_dif, v_eqS, v_eqI, v_neS, v_neI, v_inT, v_inL, v_niT, v_niL, v_isn, v_is, nonM, v_lenL, v_lenT, v_lenC, v_lenR, v_abs, v_intI, v_intB, v_max, v_min, v_listL, v_listT, v_listR, v_tupL, v_tupT, v_tupR, v_ltI, v_leI, v_gtI, v_geI, v_cutC, v_cutL, v_cutT, v_cutR, v_revL, v_app, v_inR, v_ixL, v_ixT, v_ixC, v_ixR,
  at_lit, at_last, ix_lit, v_mulN, v_mulM, v_mulL0, v_mulL1, Nat.zero_le, v_divN, v_powN, v_mod, sbO_some, v_sb, v_pop0, pop0_cons, Int.reduceLT, Int.reduceLE, Int.reducePow, Int.reduceNeg, Int.reduceAdd, Int.reduceSub, Int.reduceMul, h_last, h_set, fin_app, fin_self, setR_some, set_tup, set_lst, set_ref, setO_lst, Nat.lt_irrefl,
  flatM, inF_nil, inF_cons, eqF, List.all_cons, List.all_nil, List.any_cons, List.any_nil, str_beq, str_lit, String.reduceEq, decide_true, decide_false, decide_eq_true_eq, Bool.and_true, Bool.true_and, Bool.and_false, Bool.false_and, Bool.or_true, Bool.true_or, Bool.or_false, Bool.false_or, Bool.not_true, Bool.not_false, Bool.and_self, Bool.or_self,
  List.getElem?_cons_zero, List.getElem?_cons_succ, List.set_cons_zero, List.set_cons_succ, List.getElem?_nil, if_true, reduceIte, Bool.false_eq_true, belows, below, Nat.le_refl, reduceCtorEq, e_lc, k_lc, k_lc2, e_yes, l_nil, l_cons, k_l1, k_l2t, k_l2f, k_l3, e_r1, k_r1N, e_en, k_enL, k_enT, e_mkE, k_mkE, e_erF, k_erF, e_isE, wipeM])
local macro_rules | `(tactic| walk_at "evs") => `(tactic| simp only [*, e_fun, finR_rt, finR_nx, finR_exc, fin_raw, finX_raw, List.map_cons, List.map_nil, List.replicate_succ, List.replicate_zero, List.cons_append, List.nil_append, List.append_nil, List.length_cons, List.length_nil, Nat.zero_add, Nat.reduceAdd, Nat.reduceLeDiff, Nat.reduceLT, Nat.zero_lt_succ, Nat.add_one_pos,  String.reduceBEq, v_isiS, v_isiI, v_isiB, v_isiT, v_isiL, isiR_some, tyM, subT,
  e_var, getS_val, e_k, e_nil, e_cons, k_cons1, k_cons1x, k_cons2, k_cons2x, e_tup, k_tup, k_tupx, e_lst, k_lst, k_lstx, e_op, k_op1, k_op1x, k_op2, k_op2x, e_test, asB_ok, asB_x, noX_ok, e_chain, k_ch1, k_ch2, k_ch3t, k_ch3f, e_and, k_andt, k_andf, e_or, k_ort, k_orf, e_not, k_not, e_if, k_ift, k_iff,
  e_tand, k_tandt, k_tandf, e_tor, k_tort, k_torf, e_tnot, k_tnot, e_tru, k_tru, k_trux, onRef_lst, blR_t, truR_some, tru_bl, tru_int, tru_lst, tru_tup, e_cb, k_cb, k_cbx, e_on1, e_on2, e_call, k_call, k_callx, e_neg, k_neg, e_lm, k_lm, k_lm2, k_lm2x, e_sm, k_sm, e_pn, e_ps, k_ps, e_sl, k_sl1, k_sl2, k_sl3, e_rev, k_rev,
  e_errF, e_errIs, k_errF, k_errIs, opR_some, e_seq, seqS_nx, seqS_rt, seqS_bk, seqS_ct, seqS_exc, e_nx, e_bk, e_ct, e_drop, k_drop, k_dropx, e_ret, k_ret, k_retx, e_retN, e_ifS, k_ifSt, k_ifSf, k_ifSx, e_set, k_set, k_setx, e_asg, k_asg, k_asgx, k_asg2, e_par, k_par, e_gn, e_gs0, e_gs1, k_gs, e_gtp, e_sb, k_sb1, k_sb2,
  e_raise, k_raise, e_it, k_it, e_for, k_for, run_nil, run_cons, k_turn, k_turnN, k_turnC, k_turnB, k_turnR, k_turnX, src_str, src_tup, src_lst, src_scr, e_try, k_try, k_tryx, k_catch0, k_catchT, k_catchF, k_goneR,
  v_newT, v_newL, v_newR, v_addI, v_addL, v_addT, v_addRL, v_dif, v_eqS, v_eqI, v_neS, v_neI, v_inT, v_inL, v_niT, v_niL, v_isn, v_is, nonM, v_lenL, v_lenT, v_lenC, v_lenR, v_abs, v_intI, v_intB, v_max, v_min, v_listL, v_listT, v_listR, v_tupL, v_tupT, v_tupR, v_ltI, v_leI, v_gtI, v_geI, v_cutC, v_cutL, v_cutT, v_cutR, v_revL, v_app, v_inR, v_ixL, v_ixT, v_ixC, v_ixR,
  at_lit, at_last, ix_lit, v_mulN, v_mulM, v_mulL0, v_mulL1, Nat.zero_le, v_divN, v_powN, v_mod, sbO_some, v_sb, v_pop0, pop0_cons, Int.reduceLT, Int.reduceLE, Int.reducePow, Int.reduceNeg, Int.reduceAdd, Int.reduceSub, Int.reduceMul, h_last, h_set, fin_app, fin_self, setR_some, set_tup, set_lst, set_ref, setO_lst, Nat.lt_irrefl,
  flatM, inF_nil, inF_cons, eqF, List.all_cons, List.all_nil, List.any_cons, List.any_nil, str_beq, str_lit, String.reduceEq, decide_true, decide_false, decide_eq_true_eq, Bool.and_true, Bool.true_and, Bool.and_false, Bool.false_and, Bool.or_true, Bool.true_or, Bool.or_false, Bool.false_or, Bool.not_true, Bool.not_false, Bool.and_self, Bool.or_self,
  List.getElem?_cons_zero, List.getElem?_cons_succ, List.set_cons_zero, List.set_cons_succ, List.getElem?_nil, if_true, reduceIte, Bool.false_eq_true, belows, below, Nat.le_refl, reduceCtorEq, e_lc, k_lc, k_lc2, e_yes, l_nil, l_cons, k_l1, k_l2t, k_l2f, k_l3, e_r1, k_r1N, e_en, k_enL, k_enT, e_mkE, k_mkE, e_erF, k_erF, e_isE, wipeM])
/-! ### the bag -/
def IsBag (k : Int) (o : MO) : Prop := ∃ d m c : Int, o = .lst [.int d, .int m, .int c] ∧ 0 ≤ c ∧ c ≤ k ∧ 0 ≤ m ∧ m < 2000000000000000000
theorem pow64 {i : Int} (h0 : 0 ≤ i) (h1 : i < 18446744073709551616) (n : Nat) (hn : n ≤ 1000) (h : MH) : gPow (.int i) (.int (no_index (OfNat.ofNat n))) h = .ok (.int (i ^ n)) h :=
  v_pow h _ _ ⟨by show (0 : Int) ≤ ((n : Nat) : Int); omega, by show ((n : Nat) : Int) ≤ 1000000; omega, by omega⟩
theorem draw_ok {k : Int} (hk : k ≤ 1000000000) {h : MH} {n : Nat} {o : MO} (hn : h[n]? = some o) (hb : IsBag k o) {z : Int} (h0 : 0 < z) (h1 : z.natAbs.log2 < 9000) :
    ∃ r o', F__law_draw [.ref n, .int z] h = .ok (.int r) (h.set n o') ∧ 0 ≤ r ∧ r < z ∧ IsBag (k + 1) o' := by
  obtain ⟨d, m, c, rfl, c0, ck, m0, m1⟩ := hb
  have hlt := (List.getElem?_eq_some_iff.mp hn).1
  have hs : ∀ o', (h.set n o')[n]? = some o' := fun o' => List.getElem?_set_self hlt
  have hss : ∀ o1 o2 : MO, (h.set n o1).set n o2 = h.set n o2 := fun o1 o2 => List.set_set ..
  unfold F__law_draw
  by_cases hd : 0 < d
  · have hv : 0 < z ∧ z.natAbs.log2 < 9000 := ⟨h0, h1⟩
    simp only [hn, hs, hss, hd, h0, v_div _ _ _ hv, e_fun, finR_rt, finR_nx, finR_exc, fin_raw, finX_raw, List.map_cons, List.map_nil, List.replicate_succ, List.replicate_zero, List.cons_append, List.nil_append, List.append_nil, List.length_cons, List.length_nil, Nat.zero_add, Nat.reduceAdd, Nat.reduceLeDiff, Nat.reduceLT, Nat.zero_lt_succ, Nat.add_one_pos,  String.reduceBEq, v_isiS, v_isiI, v_isiB, v_isiT, v_isiL, isiR_some, tyM, subT,
  e_var, getS_val, e_k, e_nil, e_cons, k_cons1, k_cons1x, k_cons2, k_cons2x, e_tup, k_tup, k_tupx, e_lst, k_lst, k_lstx, e_op, k_op1, k_op1x, k_op2, k_op2x, e_test, asB_ok, asB_x, noX_ok, e_chain, k_ch1, k_ch2, k_ch3t, k_ch3f, e_and, k_andt, k_andf, e_or, k_ort, k_orf, e_not, k_not, e_if, k_ift, k_iff,
  e_tand, k_tandt, k_tandf, e_tor, k_tort, k_torf, e_tnot, k_tnot, e_tru, k_tru, k_trux, onRef_lst, blR_t, truR_some, tru_bl, tru_int, tru_lst, tru_tup, e_cb, k_cb, k_cbx, e_on1, e_on2, e_call, k_call, k_callx, e_neg, k_neg, e_lm, k_lm, k_lm2, k_lm2x, e_sm, k_sm, e_pn, e_ps, k_ps, e_sl, k_sl1, k_sl2, k_sl3, e_rev, k_rev,
  e_errF, e_errIs, k_errF, k_errIs, opR_some, e_seq, seqS_nx, seqS_rt, seqS_bk, seqS_ct, seqS_exc, e_nx, e_bk, e_ct, e_drop, k_drop, k_dropx, e_ret, k_ret, k_retx, e_retN, e_ifS, k_ifSt, k_ifSf, k_ifSx, e_set, k_set, k_setx, e_asg, k_asg, k_asgx, k_asg2, e_par, k_par, e_gn, e_gs0, e_gs1, k_gs, e_gtp, e_sb, k_sb1, k_sb2,
  e_raise, k_raise, e_it, k_it, e_for, k_for, run_nil, run_cons, k_turn, k_turnN, k_turnC, k_turnB, k_turnR, k_turnX, src_str, src_tup, src_lst, src_scr, e_try, k_try, k_tryx, k_catch0, k_catchT, k_catchF, k_goneR,
  v_newT, v_newL, v_newR, v_addI, v_addL, v_addT, v_addRL, v_dif, v_eqS, v_eqI, v_neS, v_neI, v_inT, v_inL, v_niT, v_niL, v_isn, v_is, nonM, v_lenL, v_lenT, v_lenC, v_lenR, v_abs, v_intI, v_intB, v_max, v_min, v_listL, v_listT, v_listR, v_tupL, v_tupT, v_tupR, v_ltI, v_leI, v_gtI, v_geI, v_cutC, v_cutL, v_cutT, v_cutR, v_revL, v_app, v_inR, v_ixL, v_ixT, v_ixC, v_ixR,
  at_lit, at_last, ix_lit, v_mulN, v_mulM, v_mulL0, v_mulL1, Nat.zero_le, v_divN, v_powN, v_mod, sbO_some, v_sb, v_pop0, pop0_cons, Int.reduceLT, Int.reduceLE, Int.reducePow, Int.reduceNeg, Int.reduceAdd, Int.reduceSub, Int.reduceMul, h_last, h_set, fin_app, fin_self, setR_some, set_tup, set_lst, set_ref, setO_lst, Nat.lt_irrefl,
  flatM, inF_nil, inF_cons, eqF, List.all_cons, List.all_nil, List.any_cons, List.any_nil, str_beq, str_lit, String.reduceEq, decide_true, decide_false, decide_eq_true_eq, Bool.and_true, Bool.true_and, Bool.and_false, Bool.false_and, Bool.or_true, Bool.true_or, Bool.or_false, Bool.false_or, Bool.not_true, Bool.not_false, Bool.and_self, Bool.or_self,
  List.getElem?_cons_zero, List.getElem?_cons_succ, List.set_cons_zero, List.set_cons_succ, List.getElem?_nil, if_true, reduceIte, Bool.false_eq_true, belows, below, Nat.le_refl, reduceCtorEq, e_lc, k_lc, k_lc2, e_yes, l_nil, l_cons, k_l1, k_l2t, k_l2f, k_l3, e_r1, k_r1N, e_en, k_enL, k_enT, e_mkE, k_mkE, e_erF, k_erF, e_isE, wipeM]
    exact ⟨_, _, rfl, Int.emod_nonneg _ (by omega), Int.emod_lt_of_pos _ h0, _, _, _, rfl, c0, by omega, m0, m1⟩
  · have p1 := pow64 (i := m + 611953 * (c + 1)) (by omega) (by omega) 2 (by decide)
    have q0 := Int.emod_nonneg ((m + 611953 * (c + 1)) ^ 2 + 40503 * m) (show (1152921504606846869 : Int) ≠ 0 by decide)
    have q1 := Int.emod_lt_of_pos ((m + 611953 * (c + 1)) ^ 2 + 40503 * m) (show (0 : Int) < 1152921504606846869 by decide)
    have p2 := pow64 (i := ((m + 611953 * (c + 1)) ^ 2 + 40503 * m) % 1152921504606846869 + 15485863 * (c + 1)) (by omega) (by omega) 3 (by decide)
    simp only [hn, hs, hss, hd, h0, p1, p2, e_fun, finR_rt, finR_nx, finR_exc, fin_raw, finX_raw, List.map_cons, List.map_nil, List.replicate_succ, List.replicate_zero, List.cons_append, List.nil_append, List.append_nil, List.length_cons, List.length_nil, Nat.zero_add, Nat.reduceAdd, Nat.reduceLeDiff, Nat.reduceLT, Nat.zero_lt_succ, Nat.add_one_pos,  String.reduceBEq, v_isiS, v_isiI, v_isiB, v_isiT, v_isiL, isiR_some, tyM, subT,
  e_var, getS_val, e_k, e_nil, e_cons, k_cons1, k_cons1x, k_cons2, k_cons2x, e_tup, k_tup, k_tupx, e_lst, k_lst, k_lstx, e_op, k_op1, k_op1x, k_op2, k_op2x, e_test, asB_ok, asB_x, noX_ok, e_chain, k_ch1, k_ch2, k_ch3t, k_ch3f, e_and, k_andt, k_andf, e_or, k_ort, k_orf, e_not, k_not, e_if, k_ift, k_iff,
  e_tand, k_tandt, k_tandf, e_tor, k_tort, k_torf, e_tnot, k_tnot, e_tru, k_tru, k_trux, onRef_lst, blR_t, truR_some, tru_bl, tru_int, tru_lst, tru_tup, e_cb, k_cb, k_cbx, e_on1, e_on2, e_call, k_call, k_callx, e_neg, k_neg, e_lm, k_lm, k_lm2, k_lm2x, e_sm, k_sm, e_pn, e_ps, k_ps, e_sl, k_sl1, k_sl2, k_sl3, e_rev, k_rev,
  e_errF, e_errIs, k_errF, k_errIs, opR_some, e_seq, seqS_nx, seqS_rt, seqS_bk, seqS_ct, seqS_exc, e_nx, e_bk, e_ct, e_drop, k_drop, k_dropx, e_ret, k_ret, k_retx, e_retN, e_ifS, k_ifSt, k_ifSf, k_ifSx, e_set, k_set, k_setx, e_asg, k_asg, k_asgx, k_asg2, e_par, k_par, e_gn, e_gs0, e_gs1, k_gs, e_gtp, e_sb, k_sb1, k_sb2,
  e_raise, k_raise, e_it, k_it, e_for, k_for, run_nil, run_cons, k_turn, k_turnN, k_turnC, k_turnB, k_turnR, k_turnX, src_str, src_tup, src_lst, src_scr, e_try, k_try, k_tryx, k_catch0, k_catchT, k_catchF, k_goneR,
  v_newT, v_newL, v_newR, v_addI, v_addL, v_addT, v_addRL, v_dif, v_eqS, v_eqI, v_neS, v_neI, v_inT, v_inL, v_niT, v_niL, v_isn, v_is, nonM, v_lenL, v_lenT, v_lenC, v_lenR, v_abs, v_intI, v_intB, v_max, v_min, v_listL, v_listT, v_listR, v_tupL, v_tupT, v_tupR, v_ltI, v_leI, v_gtI, v_geI, v_cutC, v_cutL, v_cutT, v_cutR, v_revL, v_app, v_inR, v_ixL, v_ixT, v_ixC, v_ixR,
  at_lit, at_last, ix_lit, v_mulN, v_mulM, v_mulL0, v_mulL1, Nat.zero_le, v_divN, v_powN, v_mod, sbO_some, v_sb, v_pop0, pop0_cons, Int.reduceLT, Int.reduceLE, Int.reducePow, Int.reduceNeg, Int.reduceAdd, Int.reduceSub, Int.reduceMul, h_last, h_set, fin_app, fin_self, setR_some, set_tup, set_lst, set_ref, setO_lst, Nat.lt_irrefl,
  flatM, inF_nil, inF_cons, eqF, List.all_cons, List.all_nil, List.any_cons, List.any_nil, str_beq, str_lit, String.reduceEq, decide_true, decide_false, decide_eq_true_eq, Bool.and_true, Bool.true_and, Bool.and_false, Bool.false_and, Bool.or_true, Bool.true_or, Bool.or_false, Bool.false_or, Bool.not_true, Bool.not_false, Bool.and_self, Bool.or_self,
  List.getElem?_cons_zero, List.getElem?_cons_succ, List.set_cons_zero, List.set_cons_succ, List.getElem?_nil, if_true, reduceIte, Bool.false_eq_true, belows, below, Nat.le_refl, reduceCtorEq, e_lc, k_lc, k_lc2, e_yes, l_nil, l_cons, k_l1, k_l2t, k_l2f, k_l3, e_r1, k_r1N, e_en, k_enL, k_enT, e_mkE, k_mkE, e_erF, k_erF, e_isE, wipeM]
    exact ⟨_, _, rfl, Int.emod_nonneg _ (by omega), Int.emod_lt_of_pos _ h0, _, _, _, rfl, by omega, by omega, m0, m1⟩
theorem bag_ok (ns : List Int) (h : MH) (at_ : Int) (ha : 0 ≤ at_) (hb : at_ ≤ 1000) : ∃ o, F__law_bag [scrM ns, .int at_] h = .ok (.ref h.length) (h ++ [o]) ∧ IsBag 0 o := by
  unfold F__law_bag scrM
  have key : ∀ cell : Int, 0 ≤ cell % 1152921504606846883 + 7001 * at_ + 17 ∧ cell % 1152921504606846883 + 7001 * at_ + 17 < 2000000000000000000 := fun cell => by
    have := Int.emod_nonneg cell (show (1152921504606846883 : Int) ≠ 0 by decide)
    have := Int.emod_lt_of_pos cell (show (0 : Int) < 1152921504606846883 by decide)
    omega
  by_cases hl : at_ < (ns.length : Int)
  · have hi : atI (ns.map MV.int) at_ = some (.int (ns.getD at_.toNat 0)) := by
      refine at_get ha ?_
      have hl : at_.toNat < ns.length := by omega
      rw [List.getElem?_map, List.getElem?_eq_getElem hl, List.getD_eq_getElem?_getD, List.getElem?_eq_getElem hl]
      rfl
    by_cases hg : 1000000000000000000 ≤ (if ns.getD at_.toNat 0 < 0 then -ns.getD at_.toNat 0 else ns.getD at_.toNat 0)
    · simp only [List.length_map, hl, hi, decide_eq_true hg, e_fun, finR_rt, finR_nx, finR_exc, fin_raw, finX_raw, List.map_cons, List.map_nil, List.replicate_succ, List.replicate_zero, List.cons_append, List.nil_append, List.append_nil, List.length_cons, List.length_nil, Nat.zero_add, Nat.reduceAdd, Nat.reduceLeDiff, Nat.reduceLT, Nat.zero_lt_succ, Nat.add_one_pos,  String.reduceBEq, v_isiS, v_isiI, v_isiB, v_isiT, v_isiL, isiR_some, tyM, subT,
  e_var, getS_val, e_k, e_nil, e_cons, k_cons1, k_cons1x, k_cons2, k_cons2x, e_tup, k_tup, k_tupx, e_lst, k_lst, k_lstx, e_op, k_op1, k_op1x, k_op2, k_op2x, e_test, asB_ok, asB_x, noX_ok, e_chain, k_ch1, k_ch2, k_ch3t, k_ch3f, e_and, k_andt, k_andf, e_or, k_ort, k_orf, e_not, k_not, e_if, k_ift, k_iff,
  e_tand, k_tandt, k_tandf, e_tor, k_tort, k_torf, e_tnot, k_tnot, e_tru, k_tru, k_trux, onRef_lst, blR_t, truR_some, tru_bl, tru_int, tru_lst, tru_tup, e_cb, k_cb, k_cbx, e_on1, e_on2, e_call, k_call, k_callx, e_neg, k_neg, e_lm, k_lm, k_lm2, k_lm2x, e_sm, k_sm, e_pn, e_ps, k_ps, e_sl, k_sl1, k_sl2, k_sl3, e_rev, k_rev,
  e_errF, e_errIs, k_errF, k_errIs, opR_some, e_seq, seqS_nx, seqS_rt, seqS_bk, seqS_ct, seqS_exc, e_nx, e_bk, e_ct, e_drop, k_drop, k_dropx, e_ret, k_ret, k_retx, e_retN, e_ifS, k_ifSt, k_ifSf, k_ifSx, e_set, k_set, k_setx, e_asg, k_asg, k_asgx, k_asg2, e_par, k_par, e_gn, e_gs0, e_gs1, k_gs, e_gtp, e_sb, k_sb1, k_sb2,
  e_raise, k_raise, e_it, k_it, e_for, k_for, run_nil, run_cons, k_turn, k_turnN, k_turnC, k_turnB, k_turnR, k_turnX, src_str, src_tup, src_lst, src_scr, e_try, k_try, k_tryx, k_catch0, k_catchT, k_catchF, k_goneR,
  v_newT, v_newL, v_newR, v_addI, v_addL, v_addT, v_addRL, v_dif, v_eqS, v_eqI, v_neS, v_neI, v_inT, v_inL, v_niT, v_niL, v_isn, v_is, nonM, v_lenL, v_lenT, v_lenC, v_lenR, v_abs, v_intI, v_intB, v_max, v_min, v_listL, v_listT, v_listR, v_tupL, v_tupT, v_tupR, v_ltI, v_leI, v_gtI, v_geI, v_cutC, v_cutL, v_cutT, v_cutR, v_revL, v_app, v_inR, v_ixL, v_ixT, v_ixC, v_ixR,
  at_lit, at_last, ix_lit, v_mulN, v_mulM, v_mulL0, v_mulL1, Nat.zero_le, v_divN, v_powN, v_mod, sbO_some, v_sb, v_pop0, pop0_cons, Int.reduceLT, Int.reduceLE, Int.reducePow, Int.reduceNeg, Int.reduceAdd, Int.reduceSub, Int.reduceMul, h_last, h_set, fin_app, fin_self, setR_some, set_tup, set_lst, set_ref, setO_lst, Nat.lt_irrefl,
  flatM, inF_nil, inF_cons, eqF, List.all_cons, List.all_nil, List.any_cons, List.any_nil, str_beq, str_lit, String.reduceEq, decide_true, decide_false, decide_eq_true_eq, Bool.and_true, Bool.true_and, Bool.and_false, Bool.false_and, Bool.or_true, Bool.true_or, Bool.or_false, Bool.false_or, Bool.not_true, Bool.not_false, Bool.and_self, Bool.or_self,
  List.getElem?_cons_zero, List.getElem?_cons_succ, List.set_cons_zero, List.set_cons_succ, List.getElem?_nil, if_true, reduceIte, Bool.false_eq_true, belows, below, Nat.le_refl, reduceCtorEq, e_lc, k_lc, k_lc2, e_yes, l_nil, l_cons, k_l1, k_l2t, k_l2f, k_l3, e_r1, k_r1N, e_en, k_enL, k_enT, e_mkE, k_mkE, e_erF, k_erF, e_isE, wipeM]
      exact ⟨_, rfl, _, _, _, rfl, Int.le_refl _, Int.le_refl _, key _⟩
    · simp only [List.length_map, hl, hi, decide_eq_false hg, e_fun, finR_rt, finR_nx, finR_exc, fin_raw, finX_raw, List.map_cons, List.map_nil, List.replicate_succ, List.replicate_zero, List.cons_append, List.nil_append, List.append_nil, List.length_cons, List.length_nil, Nat.zero_add, Nat.reduceAdd, Nat.reduceLeDiff, Nat.reduceLT, Nat.zero_lt_succ, Nat.add_one_pos,  String.reduceBEq, v_isiS, v_isiI, v_isiB, v_isiT, v_isiL, isiR_some, tyM, subT,
  e_var, getS_val, e_k, e_nil, e_cons, k_cons1, k_cons1x, k_cons2, k_cons2x, e_tup, k_tup, k_tupx, e_lst, k_lst, k_lstx, e_op, k_op1, k_op1x, k_op2, k_op2x, e_test, asB_ok, asB_x, noX_ok, e_chain, k_ch1, k_ch2, k_ch3t, k_ch3f, e_and, k_andt, k_andf, e_or, k_ort, k_orf, e_not, k_not, e_if, k_ift, k_iff,
  e_tand, k_tandt, k_tandf, e_tor, k_tort, k_torf, e_tnot, k_tnot, e_tru, k_tru, k_trux, onRef_lst, blR_t, truR_some, tru_bl, tru_int, tru_lst, tru_tup, e_cb, k_cb, k_cbx, e_on1, e_on2, e_call, k_call, k_callx, e_neg, k_neg, e_lm, k_lm, k_lm2, k_lm2x, e_sm, k_sm, e_pn, e_ps, k_ps, e_sl, k_sl1, k_sl2, k_sl3, e_rev, k_rev,
  e_errF, e_errIs, k_errF, k_errIs, opR_some, e_seq, seqS_nx, seqS_rt, seqS_bk, seqS_ct, seqS_exc, e_nx, e_bk, e_ct, e_drop, k_drop, k_dropx, e_ret, k_ret, k_retx, e_retN, e_ifS, k_ifSt, k_ifSf, k_ifSx, e_set, k_set, k_setx, e_asg, k_asg, k_asgx, k_asg2, e_par, k_par, e_gn, e_gs0, e_gs1, k_gs, e_gtp, e_sb, k_sb1, k_sb2,
  e_raise, k_raise, e_it, k_it, e_for, k_for, run_nil, run_cons, k_turn, k_turnN, k_turnC, k_turnB, k_turnR, k_turnX, src_str, src_tup, src_lst, src_scr, e_try, k_try, k_tryx, k_catch0, k_catchT, k_catchF, k_goneR,
  v_newT, v_newL, v_newR, v_addI, v_addL, v_addT, v_addRL, v_dif, v_eqS, v_eqI, v_neS, v_neI, v_inT, v_inL, v_niT, v_niL, v_isn, v_is, nonM, v_lenL, v_lenT, v_lenC, v_lenR, v_abs, v_intI, v_intB, v_max, v_min, v_listL, v_listT, v_listR, v_tupL, v_tupT, v_tupR, v_ltI, v_leI, v_gtI, v_geI, v_cutC, v_cutL, v_cutT, v_cutR, v_revL, v_app, v_inR, v_ixL, v_ixT, v_ixC, v_ixR,
  at_lit, at_last, ix_lit, v_mulN, v_mulM, v_mulL0, v_mulL1, Nat.zero_le, v_divN, v_powN, v_mod, sbO_some, v_sb, v_pop0, pop0_cons, Int.reduceLT, Int.reduceLE, Int.reducePow, Int.reduceNeg, Int.reduceAdd, Int.reduceSub, Int.reduceMul, h_last, h_set, fin_app, fin_self, setR_some, set_tup, set_lst, set_ref, setO_lst, Nat.lt_irrefl,
  flatM, inF_nil, inF_cons, eqF, List.all_cons, List.all_nil, List.any_cons, List.any_nil, str_beq, str_lit, String.reduceEq, decide_true, decide_false, decide_eq_true_eq, Bool.and_true, Bool.true_and, Bool.and_false, Bool.false_and, Bool.or_true, Bool.true_or, Bool.or_false, Bool.false_or, Bool.not_true, Bool.not_false, Bool.and_self, Bool.or_self,
  List.getElem?_cons_zero, List.getElem?_cons_succ, List.set_cons_zero, List.set_cons_succ, List.getElem?_nil, if_true, reduceIte, Bool.false_eq_true, belows, below, Nat.le_refl, reduceCtorEq, e_lc, k_lc, k_lc2, e_yes, l_nil, l_cons, k_l1, k_l2t, k_l2f, k_l3, e_r1, k_r1N, e_en, k_enL, k_enT, e_mkE, k_mkE, e_erF, k_erF, e_isE, wipeM]
      exact ⟨_, rfl, _, _, _, rfl, Int.le_refl _, Int.le_refl _, key _⟩
  · simp only [List.length_map, hl, e_fun, finR_rt, finR_nx, finR_exc, fin_raw, finX_raw, List.map_cons, List.map_nil, List.replicate_succ, List.replicate_zero, List.cons_append, List.nil_append, List.append_nil, List.length_cons, List.length_nil, Nat.zero_add, Nat.reduceAdd, Nat.reduceLeDiff, Nat.reduceLT, Nat.zero_lt_succ, Nat.add_one_pos,  String.reduceBEq, v_isiS, v_isiI, v_isiB, v_isiT, v_isiL, isiR_some, tyM, subT,
  e_var, getS_val, e_k, e_nil, e_cons, k_cons1, k_cons1x, k_cons2, k_cons2x, e_tup, k_tup, k_tupx, e_lst, k_lst, k_lstx, e_op, k_op1, k_op1x, k_op2, k_op2x, e_test, asB_ok, asB_x, noX_ok, e_chain, k_ch1, k_ch2, k_ch3t, k_ch3f, e_and, k_andt, k_andf, e_or, k_ort, k_orf, e_not, k_not, e_if, k_ift, k_iff,
  e_tand, k_tandt, k_tandf, e_tor, k_tort, k_torf, e_tnot, k_tnot, e_tru, k_tru, k_trux, onRef_lst, blR_t, truR_some, tru_bl, tru_int, tru_lst, tru_tup, e_cb, k_cb, k_cbx, e_on1, e_on2, e_call, k_call, k_callx, e_neg, k_neg, e_lm, k_lm, k_lm2, k_lm2x, e_sm, k_sm, e_pn, e_ps, k_ps, e_sl, k_sl1, k_sl2, k_sl3, e_rev, k_rev,
  e_errF, e_errIs, k_errF, k_errIs, opR_some, e_seq, seqS_nx, seqS_rt, seqS_bk, seqS_ct, seqS_exc, e_nx, e_bk, e_ct, e_drop, k_drop, k_dropx, e_ret, k_ret, k_retx, e_retN, e_ifS, k_ifSt, k_ifSf, k_ifSx, e_set, k_set, k_setx, e_asg, k_asg, k_asgx, k_asg2, e_par, k_par, e_gn, e_gs0, e_gs1, k_gs, e_gtp, e_sb, k_sb1, k_sb2,
  e_raise, k_raise, e_it, k_it, e_for, k_for, run_nil, run_cons, k_turn, k_turnN, k_turnC, k_turnB, k_turnR, k_turnX, src_str, src_tup, src_lst, src_scr, e_try, k_try, k_tryx, k_catch0, k_catchT, k_catchF, k_goneR,
  v_newT, v_newL, v_newR, v_addI, v_addL, v_addT, v_addRL, v_dif, v_eqS, v_eqI, v_neS, v_neI, v_inT, v_inL, v_niT, v_niL, v_isn, v_is, nonM, v_lenL, v_lenT, v_lenC, v_lenR, v_abs, v_intI, v_intB, v_max, v_min, v_listL, v_listT, v_listR, v_tupL, v_tupT, v_tupR, v_ltI, v_leI, v_gtI, v_geI, v_cutC, v_cutL, v_cutT, v_cutR, v_revL, v_app, v_inR, v_ixL, v_ixT, v_ixC, v_ixR,
  at_lit, at_last, ix_lit, v_mulN, v_mulM, v_mulL0, v_mulL1, Nat.zero_le, v_divN, v_powN, v_mod, sbO_some, v_sb, v_pop0, pop0_cons, Int.reduceLT, Int.reduceLE, Int.reducePow, Int.reduceNeg, Int.reduceAdd, Int.reduceSub, Int.reduceMul, h_last, h_set, fin_app, fin_self, setR_some, set_tup, set_lst, set_ref, setO_lst, Nat.lt_irrefl,
  flatM, inF_nil, inF_cons, eqF, List.all_cons, List.all_nil, List.any_cons, List.any_nil, str_beq, str_lit, String.reduceEq, decide_true, decide_false, decide_eq_true_eq, Bool.and_true, Bool.true_and, Bool.and_false, Bool.false_and, Bool.or_true, Bool.true_or, Bool.or_false, Bool.false_or, Bool.not_true, Bool.not_false, Bool.and_self, Bool.or_self,
  List.getElem?_cons_zero, List.getElem?_cons_succ, List.set_cons_zero, List.set_cons_succ, List.getElem?_nil, if_true, reduceIte, Bool.false_eq_true, belows, below, Nat.le_refl, reduceCtorEq, e_lc, k_lc, k_lc2, e_yes, l_nil, l_cons, k_l1, k_l2t, k_l2f, k_l3, e_r1, k_r1N, e_en, k_enL, k_enT, e_mkE, k_mkE, e_erF, k_erF, e_isE, wipeM]
    exact ⟨_, rfl, _, _, _, rfl, Int.le_refl _, Int.le_refl _, key 0⟩
end L
set_option Elab.async false
set_option linter.all false
set_option maxRecDepth 100000
set_option maxHeartbeats 4000000
namespace L
open PySem PySem.Spec L2 G M
local macro_rules | `(tactic| walk_at "ev") => `(tactic| simp only [e_fun, finR_rt, finR_nx, finR_exc, fin_raw, finX_raw, List.map_cons, List.map_nil, List.replicate_succ, List.replicate_zero, List.cons_append, List.nil_append, List.append_nil, List.length_cons, List.length_nil, Nat.zero_add, Nat.reduceAdd, Nat.reduceLeDiff, Nat.reduceLT, Nat.zero_lt_succ, Nat.add_one_pos,  String.reduceBEq, v_isiS, v_isiI, v_isiB, v_isiT, v_isiL, isiR_some, tyM, subT,
  e_var, getS_val, e_k, e_nil, e_cons, k_cons1, k_cons1x, k_cons2, k_cons2x, e_tup, k_tup, k_tupx, e_lst, k_lst, k_lstx, e_op, k_op1, k_op1x, k_op2, k_op2x, e_test, asB_ok, asB_x, noX_ok, e_chain, k_ch1, k_ch2, k_ch3t, k_ch3f, e_and, k_andt, k_andf, e_or, k_ort, k_orf, e_not, k_not, e_if, k_ift, k_iff,
  e_tand, k_tandt, k_tandf, e_tor, k_tort, k_torf, e_tnot, k_tnot, e_tru, k_tru, k_trux, onRef_lst, blR_t, truR_some, tru_bl, tru_int, tru_lst, tru_tup, e_cb, k_cb, k_cbx, e_on1, e_on2, e_call, k_call, k_callx, e_neg, k_neg, e_lm, k_lm, k_lm2, k_lm2x, e_sm, k_sm, e_pn, e_ps, k_ps, e_sl, k_sl1, k_sl2, k_sl3, e_rev, k_rev,
  e_errF, e_errIs, k_errF, k_errIs, opR_some, e_seq, seqS_nx, seqS_rt, seqS_bk, seqS_ct, seqS_exc, e_nx, e_bk, e_ct, e_drop, k_drop, k_dropx, e_ret, k_ret, k_retx, e_retN, e_ifS, k_ifSt, k_ifSf, k_ifSx, e_set, k_set, k_setx, e_asg, k_asg, k_asgx, k_asg2, e_par, k_par, e_gn, e_gs0, e_gs1, k_gs, e_gtp, e_sb, k_sb1, k_sb2,
  e_raise, k_raise, e_it, k_it, e_for, k_for, run_nil, run_cons, k_turn, k_turnN, k_turnC, k_turnB, k_turnR, k_turnX, src_str, src_tup, src_lst, src_scr, e_try, k_try, k_tryx, k_catch0, k_catchT, k_catchF, k_goneR,
  v_newT, v_newL, v_newR, v_addI, v_addL, v_addT, v_addRL, v_dif, v_eqS, v_eqI, v_neS, v_neI, v_inT, v_inL, v_niT, v_niL, v_isn, v_is, nonM, v_lenL, v_lenT, v_lenC, v_lenR, v_abs, v_intI, v_intB, v_max, v_min, v_listL, v_listT, v_listR, v_tupL, v_tupT, v_tupR, v_ltI, v_leI, v_gtI, v_geI, v_cutC, v_cutL, v_cutT, v_cutR, v_revL, v_app, v_inR, v_ixL, v_ixT, v_ixC, v_ixR,
  at_lit, at_last, ix_lit, v_mulN, v_mulM, v_mulL0, v_mulL1, Nat.zero_le, v_divN, v_powN, v_mod, sbO_some, v_sb, v_pop0, pop0_cons, Int.reduceLT, Int.reduceLE, Int.reducePow, Int.reduceNeg, Int.reduceAdd, Int.reduceSub, Int.reduceMul, h_last, h_set, fin_app, fin_self, setR_some, set_tup, set_lst, set_ref, setO_lst, Nat.lt_irrefl,
  flatM, inF_nil, inF_cons, eqF, List.all_cons, List.all_nil, List.any_cons, List.any_nil, str_beq, str_lit, String.reduceEq, decide_true, decide_false, decide_eq_true_eq, Bool.and_true, Bool.true_and, Bool.and_false, Bool.false_and, Bool.or_true, Bool.true_or, Bool.or_false, Bool.false_or, Bool.not_true, Bool.not_false, Bool.and_self, Bool.or_self,
  List.getElem?_cons_zero, List.getElem?_cons_succ, List.set_cons_zero, List.set_cons_succ, List.getElem?_nil, if_true, reduceIte, Bool.false_eq_true, belows, below, Nat.le_refl, reduceCtorEq, e_lc, k_lc, k_lc2, e_yes, l_nil, l_cons, k_l1, k_l2t, k_l2f, k_l3, e_r1, k_r1N, e_en, k_enL, k_enT, e_mkE, k_mkE, e_erF, k_erF, e_isE, wipeM])
local macro_rules | `(tactic| walk_at "evs") => `(tactic| simp only [*, e_fun, finR_rt, finR_nx, finR_exc, fin_raw, finX_raw, List.map_cons, List.map_nil, List.replicate_succ, List.replicate_zero, List.cons_append, List.nil_append, List.append_nil, List.length_cons, List.length_nil, Nat.zero_add, Nat.reduceAdd, Nat.reduceLeDiff, Nat.reduceLT, Nat.zero_lt_succ, Nat.add_one_pos,  String.reduceBEq, v_isiS, v_isiI, v_isiB, v_isiT, v_isiL, isiR_some, tyM, subT,
  e_var, getS_val, e_k, e_nil, e_cons, k_cons1, k_cons1x, k_cons2, k_cons2x, e_tup, k_tup, k_tupx, e_lst, k_lst, k_lstx, e_op, k_op1, k_op1x, k_op2, k_op2x, e_test, asB_ok, asB_x, noX_ok, e_chain, k_ch1, k_ch2, k_ch3t, k_ch3f, e_and, k_andt, k_andf, e_or, k_ort, k_orf, e_not, k_not, e_if, k_ift, k_iff,
  e_tand, k_tandt, k_tandf, e_tor, k_tort, k_torf, e_tnot, k_tnot, e_tru, k_tru, k_trux, onRef_lst, blR_t, truR_some, tru_bl, tru_int, tru_lst, tru_tup, e_cb, k_cb, k_cbx, e_on1, e_on2, e_call, k_call, k_callx, e_neg, k_neg, e_lm, k_lm, k_lm2, k_lm2x, e_sm, k_sm, e_pn, e_ps, k_ps, e_sl, k_sl1, k_sl2, k_sl3, e_rev, k_rev,
  e_errF, e_errIs, k_errF, k_errIs, opR_some, e_seq, seqS_nx, seqS_rt, seqS_bk, seqS_ct, seqS_exc, e_nx, e_bk, e_ct, e_drop, k_drop, k_dropx, e_ret, k_ret, k_retx, e_retN, e_ifS, k_ifSt, k_ifSf, k_ifSx, e_set, k_set, k_setx, e_asg, k_asg, k_asgx, k_asg2, e_par, k_par, e_gn, e_gs0, e_gs1, k_gs, e_gtp, e_sb, k_sb1, k_sb2,
  e_raise, k_raise, e_it, k_it, e_for, k_for, run_nil, run_cons, k_turn, k_turnN, k_turnC, k_turnB, k_turnR, k_turnX, src_str, src_tup, src_lst, src_scr, e_try, k_try, k_tryx, k_catch0, k_catchT, k_catchF, k_goneR,
  v_newT, v_newL, v_newR, v_addI, v_addL, v_addT, v_addRL, v_dif, v_eqS, v_eqI, v_neS, v_neI, v_inT, v_inL, v_niT, v_niL, v_isn, v_is, nonM, v_lenL, v_lenT, v_lenC, v_lenR, v_abs, v_intI, v_intB, v_max, v_min, v_listL, v_listT, v_listR, v_tupL, v_tupT, v_tupR, v_ltI, v_leI, v_gtI, v_geI, v_cutC, v_cutL, v_cutT, v_cutR, v_revL, v_app, v_inR, v_ixL, v_ixT, v_ixC, v_ixR,
  at_lit, at_last, ix_lit, v_mulN, v_mulM, v_mulL0, v_mulL1, Nat.zero_le, v_divN, v_powN, v_mod, sbO_some, v_sb, v_pop0, pop0_cons, Int.reduceLT, Int.reduceLE, Int.reducePow, Int.reduceNeg, Int.reduceAdd, Int.reduceSub, Int.reduceMul, h_last, h_set, fin_app, fin_self, setR_some, set_tup, set_lst, set_ref, setO_lst, Nat.lt_irrefl,
  flatM, inF_nil, inF_cons, eqF, List.all_cons, List.all_nil, List.any_cons, List.any_nil, str_beq, str_lit, String.reduceEq, decide_true, decide_false, decide_eq_true_eq, Bool.and_true, Bool.true_and, Bool.and_false, Bool.false_and, Bool.or_true, Bool.true_or, Bool.or_false, Bool.false_or, Bool.not_true, Bool.not_false, Bool.and_self, Bool.or_self,
  List.getElem?_cons_zero, List.getElem?_cons_succ, List.set_cons_zero, List.set_cons_succ, List.getElem?_nil, if_true, reduceIte, Bool.false_eq_true, belows, below, Nat.le_refl, reduceCtorEq, e_lc, k_lc, k_lc2, e_yes, l_nil, l_cons, k_l1, k_l2t, k_l2f, k_l3, e_r1, k_r1N, e_en, k_enL, k_enT, e_mkE, k_mkE, e_erF, k_erF, e_isE, wipeM])
def madeL (a b c : MV) : List MV := [.er "NoRow" [("row", a)], .er "NoPlace" [("lst", a), ("place", b)], .er "NoHandler" [("name", a)], .er "BadName" [("name", a)], .er "BadPlace" [("place", a)], .er "BadSlide" [("index", a)], .er "NoInverse" [("slide", a)], .er "Twice" [("row", a)], .er "BadOperation" [("op", a)], .er "BadCall" [("argument", a)], .er "BadVisit" [("visit", a)], .er "BadLine" [("line", a)], .er "BadStep" [("index", a)], .er "BadText" [("index", a)], .er "BadWorld" [("world", a)], .er "BadNumber" [("name", a)], .er "BadSpot" [("spot", a)], .er "BadBound" [("index", a)], .er "BadKind" [("kind", a)], .er "OtherOperation" [("op", a)], .er "BadOrder" [("order", a)], .er "BadPair" [("first", a), ("second", b)], .er "BadRule" [("rule", a)], .er "BadMend" [("mend", a)], .er "TooMany" [("limit", a)], .er "Clash" [("step", a), ("row", b), ("other", c)], .er "CallFailed" [("index", a), ("reason", b)]]
def toldL (a b c : MV) : List MV := [.lst [a], .lst [a, b], .lst [a], .lst [a], .lst [a], .lst [a], .lst [a], .lst [a], .lst [a], .lst [a], .lst [a], .lst [a], .lst [a], .lst [a], .lst [a], .lst [a], .lst [a], .lst [a], .lst [a], .lst [a], .lst [a], .lst [a, b], .lst [a], .lst [a], .lst [a], .lst [a, b, c], .lst [a, b]]
theorem made_ok (a b c : MV) (h : MH) : F__law_made [a, b, c] h = .ok (.lst (madeL a b c)) h := by
  unfold F__law_made madeL
  simp only [List.zip_cons_cons, List.zip_nil_right, List.zip_nil_left, e_fun, finR_rt, finR_nx, finR_exc, fin_raw, finX_raw, List.map_cons, List.map_nil, List.replicate_succ, List.replicate_zero, List.cons_append, List.nil_append, List.append_nil, List.length_cons, List.length_nil, Nat.zero_add, Nat.reduceAdd, Nat.reduceLeDiff, Nat.reduceLT, Nat.zero_lt_succ, Nat.add_one_pos,  String.reduceBEq, v_isiS, v_isiI, v_isiB, v_isiT, v_isiL, isiR_some, tyM, subT,
  e_var, getS_val, e_k, e_nil, e_cons, k_cons1, k_cons1x, k_cons2, k_cons2x, e_tup, k_tup, k_tupx, e_lst, k_lst, k_lstx, e_op, k_op1, k_op1x, k_op2, k_op2x, e_test, asB_ok, asB_x, noX_ok, e_chain, k_ch1, k_ch2, k_ch3t, k_ch3f, e_and, k_andt, k_andf, e_or, k_ort, k_orf, e_not, k_not, e_if, k_ift, k_iff,
  e_tand, k_tandt, k_tandf, e_tor, k_tort, k_torf, e_tnot, k_tnot, e_tru, k_tru, k_trux, onRef_lst, blR_t, truR_some, tru_bl, tru_int, tru_lst, tru_tup, e_cb, k_cb, k_cbx, e_on1, e_on2, e_call, k_call, k_callx, e_neg, k_neg, e_lm, k_lm, k_lm2, k_lm2x, e_sm, k_sm, e_pn, e_ps, k_ps, e_sl, k_sl1, k_sl2, k_sl3, e_rev, k_rev,
  e_errF, e_errIs, k_errF, k_errIs, opR_some, e_seq, seqS_nx, seqS_rt, seqS_bk, seqS_ct, seqS_exc, e_nx, e_bk, e_ct, e_drop, k_drop, k_dropx, e_ret, k_ret, k_retx, e_retN, e_ifS, k_ifSt, k_ifSf, k_ifSx, e_set, k_set, k_setx, e_asg, k_asg, k_asgx, k_asg2, e_par, k_par, e_gn, e_gs0, e_gs1, k_gs, e_gtp, e_sb, k_sb1, k_sb2,
  e_raise, k_raise, e_it, k_it, e_for, k_for, run_nil, run_cons, k_turn, k_turnN, k_turnC, k_turnB, k_turnR, k_turnX, src_str, src_tup, src_lst, src_scr, e_try, k_try, k_tryx, k_catch0, k_catchT, k_catchF, k_goneR,
  v_newT, v_newL, v_newR, v_addI, v_addL, v_addT, v_addRL, v_dif, v_eqS, v_eqI, v_neS, v_neI, v_inT, v_inL, v_niT, v_niL, v_isn, v_is, nonM, v_lenL, v_lenT, v_lenC, v_lenR, v_abs, v_intI, v_intB, v_max, v_min, v_listL, v_listT, v_listR, v_tupL, v_tupT, v_tupR, v_ltI, v_leI, v_gtI, v_geI, v_cutC, v_cutL, v_cutT, v_cutR, v_revL, v_app, v_inR, v_ixL, v_ixT, v_ixC, v_ixR,
  at_lit, at_last, ix_lit, v_mulN, v_mulM, v_mulL0, v_mulL1, Nat.zero_le, v_divN, v_powN, v_mod, sbO_some, v_sb, v_pop0, pop0_cons, Int.reduceLT, Int.reduceLE, Int.reducePow, Int.reduceNeg, Int.reduceAdd, Int.reduceSub, Int.reduceMul, h_last, h_set, fin_app, fin_self, setR_some, set_tup, set_lst, set_ref, setO_lst, Nat.lt_irrefl,
  flatM, inF_nil, inF_cons, eqF, List.all_cons, List.all_nil, List.any_cons, List.any_nil, str_beq, str_lit, String.reduceEq, decide_true, decide_false, decide_eq_true_eq, Bool.and_true, Bool.true_and, Bool.and_false, Bool.false_and, Bool.or_true, Bool.true_or, Bool.or_false, Bool.false_or, Bool.not_true, Bool.not_false, Bool.and_self, Bool.or_self,
  List.getElem?_cons_zero, List.getElem?_cons_succ, List.set_cons_zero, List.set_cons_succ, List.getElem?_nil, if_true, reduceIte, Bool.false_eq_true, belows, below, Nat.le_refl, reduceCtorEq, e_lc, k_lc, k_lc2, e_yes, l_nil, l_cons, k_l1, k_l2t, k_l2f, k_l3, e_r1, k_r1N, e_en, k_enL, k_enT, e_mkE, k_mkE, e_erF, k_erF, e_isE, wipeM]
theorem hf_NoRow_row : hasF errTab "NoRow" "row" = true := by decide +kernel
theorem lk_row_row (a : MV) : List.lookup ("row" : Str) [(("row" : Str), a)] = some a := by simp only [List.lookup, str_beq, str_lit, String.reduceEq, decide_true, decide_false]
theorem hf_NoPlace_lst : hasF errTab "NoPlace" "lst" = true := by decide +kernel
theorem lk_lst_place_lst (a b : MV) : List.lookup ("lst" : Str) [(("lst" : Str), a), (("place" : Str), b)] = some a := by simp only [List.lookup, str_beq, str_lit, String.reduceEq, decide_true, decide_false]
theorem hf_NoPlace_place : hasF errTab "NoPlace" "place" = true := by decide +kernel
theorem lk_lst_place_place (a b : MV) : List.lookup ("place" : Str) [(("lst" : Str), a), (("place" : Str), b)] = some b := by simp only [List.lookup, str_beq, str_lit, String.reduceEq, decide_true, decide_false]
theorem hf_NoHandler_name : hasF errTab "NoHandler" "name" = true := by decide +kernel
theorem lk_name_name (a : MV) : List.lookup ("name" : Str) [(("name" : Str), a)] = some a := by simp only [List.lookup, str_beq, str_lit, String.reduceEq, decide_true, decide_false]
theorem hf_BadName_name : hasF errTab "BadName" "name" = true := by decide +kernel
theorem hf_BadPlace_place : hasF errTab "BadPlace" "place" = true := by decide +kernel
theorem lk_place_place (a : MV) : List.lookup ("place" : Str) [(("place" : Str), a)] = some a := by simp only [List.lookup, str_beq, str_lit, String.reduceEq, decide_true, decide_false]
theorem hf_BadSlide_index : hasF errTab "BadSlide" "index" = true := by decide +kernel
theorem lk_index_index (a : MV) : List.lookup ("index" : Str) [(("index" : Str), a)] = some a := by simp only [List.lookup, str_beq, str_lit, String.reduceEq, decide_true, decide_false]
theorem hf_NoInverse_slide : hasF errTab "NoInverse" "slide" = true := by decide +kernel
theorem lk_slide_slide (a : MV) : List.lookup ("slide" : Str) [(("slide" : Str), a)] = some a := by simp only [List.lookup, str_beq, str_lit, String.reduceEq, decide_true, decide_false]
theorem hf_Twice_row : hasF errTab "Twice" "row" = true := by decide +kernel
theorem hf_BadOperation_op : hasF errTab "BadOperation" "op" = true := by decide +kernel
theorem lk_op_op (a : MV) : List.lookup ("op" : Str) [(("op" : Str), a)] = some a := by simp only [List.lookup, str_beq, str_lit, String.reduceEq, decide_true, decide_false]
theorem hf_BadCall_argument : hasF errTab "BadCall" "argument" = true := by decide +kernel
theorem lk_argument_argument (a : MV) : List.lookup ("argument" : Str) [(("argument" : Str), a)] = some a := by simp only [List.lookup, str_beq, str_lit, String.reduceEq, decide_true, decide_false]
theorem hf_BadVisit_visit : hasF errTab "BadVisit" "visit" = true := by decide +kernel
theorem lk_visit_visit (a : MV) : List.lookup ("visit" : Str) [(("visit" : Str), a)] = some a := by simp only [List.lookup, str_beq, str_lit, String.reduceEq, decide_true, decide_false]
theorem hf_BadLine_line : hasF errTab "BadLine" "line" = true := by decide +kernel
theorem lk_line_line (a : MV) : List.lookup ("line" : Str) [(("line" : Str), a)] = some a := by simp only [List.lookup, str_beq, str_lit, String.reduceEq, decide_true, decide_false]
theorem hf_BadStep_index : hasF errTab "BadStep" "index" = true := by decide +kernel
theorem hf_BadText_index : hasF errTab "BadText" "index" = true := by decide +kernel
theorem hf_BadWorld_world : hasF errTab "BadWorld" "world" = true := by decide +kernel
theorem lk_world_world (a : MV) : List.lookup ("world" : Str) [(("world" : Str), a)] = some a := by simp only [List.lookup, str_beq, str_lit, String.reduceEq, decide_true, decide_false]
theorem hf_BadNumber_name : hasF errTab "BadNumber" "name" = true := by decide +kernel
theorem hf_BadSpot_spot : hasF errTab "BadSpot" "spot" = true := by decide +kernel
theorem lk_spot_spot (a : MV) : List.lookup ("spot" : Str) [(("spot" : Str), a)] = some a := by simp only [List.lookup, str_beq, str_lit, String.reduceEq, decide_true, decide_false]
theorem hf_BadBound_index : hasF errTab "BadBound" "index" = true := by decide +kernel
theorem hf_BadKind_kind : hasF errTab "BadKind" "kind" = true := by decide +kernel
theorem lk_kind_kind (a : MV) : List.lookup ("kind" : Str) [(("kind" : Str), a)] = some a := by simp only [List.lookup, str_beq, str_lit, String.reduceEq, decide_true, decide_false]
theorem hf_OtherOperation_op : hasF errTab "OtherOperation" "op" = true := by decide +kernel
theorem hf_BadOrder_order : hasF errTab "BadOrder" "order" = true := by decide +kernel
theorem lk_order_order (a : MV) : List.lookup ("order" : Str) [(("order" : Str), a)] = some a := by simp only [List.lookup, str_beq, str_lit, String.reduceEq, decide_true, decide_false]
theorem hf_BadPair_first : hasF errTab "BadPair" "first" = true := by decide +kernel
theorem lk_first_second_first (a b : MV) : List.lookup ("first" : Str) [(("first" : Str), a), (("second" : Str), b)] = some a := by simp only [List.lookup, str_beq, str_lit, String.reduceEq, decide_true, decide_false]
theorem hf_BadPair_second : hasF errTab "BadPair" "second" = true := by decide +kernel
theorem lk_first_second_second (a b : MV) : List.lookup ("second" : Str) [(("first" : Str), a), (("second" : Str), b)] = some b := by simp only [List.lookup, str_beq, str_lit, String.reduceEq, decide_true, decide_false]
theorem hf_BadRule_rule : hasF errTab "BadRule" "rule" = true := by decide +kernel
theorem lk_rule_rule (a : MV) : List.lookup ("rule" : Str) [(("rule" : Str), a)] = some a := by simp only [List.lookup, str_beq, str_lit, String.reduceEq, decide_true, decide_false]
theorem hf_BadMend_mend : hasF errTab "BadMend" "mend" = true := by decide +kernel
theorem lk_mend_mend (a : MV) : List.lookup ("mend" : Str) [(("mend" : Str), a)] = some a := by simp only [List.lookup, str_beq, str_lit, String.reduceEq, decide_true, decide_false]
theorem hf_TooMany_limit : hasF errTab "TooMany" "limit" = true := by decide +kernel
theorem lk_limit_limit (a : MV) : List.lookup ("limit" : Str) [(("limit" : Str), a)] = some a := by simp only [List.lookup, str_beq, str_lit, String.reduceEq, decide_true, decide_false]
theorem hf_Clash_step : hasF errTab "Clash" "step" = true := by decide +kernel
theorem lk_step_row_other_step (a b c : MV) : List.lookup ("step" : Str) [(("step" : Str), a), (("row" : Str), b), (("other" : Str), c)] = some a := by simp only [List.lookup, str_beq, str_lit, String.reduceEq, decide_true, decide_false]
theorem hf_Clash_row : hasF errTab "Clash" "row" = true := by decide +kernel
theorem lk_step_row_other_row (a b c : MV) : List.lookup ("row" : Str) [(("step" : Str), a), (("row" : Str), b), (("other" : Str), c)] = some b := by simp only [List.lookup, str_beq, str_lit, String.reduceEq, decide_true, decide_false]
theorem hf_Clash_other : hasF errTab "Clash" "other" = true := by decide +kernel
theorem lk_step_row_other_other (a b c : MV) : List.lookup ("other" : Str) [(("step" : Str), a), (("row" : Str), b), (("other" : Str), c)] = some c := by simp only [List.lookup, str_beq, str_lit, String.reduceEq, decide_true, decide_false]
theorem hf_CallFailed_index : hasF errTab "CallFailed" "index" = true := by decide +kernel
theorem lk_index_reason_index (a b : MV) : List.lookup ("index" : Str) [(("index" : Str), a), (("reason" : Str), b)] = some a := by simp only [List.lookup, str_beq, str_lit, String.reduceEq, decide_true, decide_false]
theorem hf_CallFailed_reason : hasF errTab "CallFailed" "reason" = true := by decide +kernel
theorem lk_index_reason_reason (a b : MV) : List.lookup ("reason" : Str) [(("index" : Str), a), (("reason" : Str), b)] = some b := by simp only [List.lookup, str_beq, str_lit, String.reduceEq, decide_true, decide_false]
theorem told_ok (a b c : MV) (h : MH) : F__law_told [.lst (madeL a b c)] h = .ok (.lst (toldL a b c)) h := by
  unfold F__law_told madeL toldL
  simp only [hf_NoRow_row, lk_row_row, hf_NoPlace_lst, lk_lst_place_lst, hf_NoPlace_place, lk_lst_place_place, hf_NoHandler_name, lk_name_name, hf_BadName_name, hf_BadPlace_place, lk_place_place, hf_BadSlide_index, lk_index_index, hf_NoInverse_slide, lk_slide_slide, hf_Twice_row, hf_BadOperation_op, lk_op_op, hf_BadCall_argument, lk_argument_argument, hf_BadVisit_visit, lk_visit_visit, hf_BadLine_line, lk_line_line, hf_BadStep_index, hf_BadText_index, hf_BadWorld_world, lk_world_world, hf_BadNumber_name, hf_BadSpot_spot, lk_spot_spot, hf_BadBound_index, hf_BadKind_kind, lk_kind_kind, hf_OtherOperation_op, hf_BadOrder_order, lk_order_order, hf_BadPair_first, lk_first_second_first, hf_BadPair_second, lk_first_second_second, hf_BadRule_rule, lk_rule_rule, hf_BadMend_mend, lk_mend_mend, hf_TooMany_limit, lk_limit_limit, hf_Clash_step, lk_step_row_other_step, hf_Clash_row, lk_step_row_other_row, hf_Clash_other, lk_step_row_other_other, hf_CallFailed_index, lk_index_reason_index, hf_CallFailed_reason, lk_index_reason_reason, e_fun, finR_rt, finR_nx, finR_exc, fin_raw, finX_raw, List.map_cons, List.map_nil, List.replicate_succ, List.replicate_zero, List.cons_append, List.nil_append, List.append_nil, List.length_cons, List.length_nil, Nat.zero_add, Nat.reduceAdd, Nat.reduceLeDiff, Nat.reduceLT, Nat.zero_lt_succ, Nat.add_one_pos,  String.reduceBEq, v_isiS, v_isiI, v_isiB, v_isiT, v_isiL, isiR_some, tyM, subT,
  e_var, getS_val, e_k, e_nil, e_cons, k_cons1, k_cons1x, k_cons2, k_cons2x, e_tup, k_tup, k_tupx, e_lst, k_lst, k_lstx, e_op, k_op1, k_op1x, k_op2, k_op2x, e_test, asB_ok, asB_x, noX_ok, e_chain, k_ch1, k_ch2, k_ch3t, k_ch3f, e_and, k_andt, k_andf, e_or, k_ort, k_orf, e_not, k_not, e_if, k_ift, k_iff,
  e_tand, k_tandt, k_tandf, e_tor, k_tort, k_torf, e_tnot, k_tnot, e_tru, k_tru, k_trux, onRef_lst, blR_t, truR_some, tru_bl, tru_int, tru_lst, tru_tup, e_cb, k_cb, k_cbx, e_on1, e_on2, e_call, k_call, k_callx, e_neg, k_neg, e_lm, k_lm, k_lm2, k_lm2x, e_sm, k_sm, e_pn, e_ps, k_ps, e_sl, k_sl1, k_sl2, k_sl3, e_rev, k_rev,
  e_errF, e_errIs, k_errF, k_errIs, opR_some, e_seq, seqS_nx, seqS_rt, seqS_bk, seqS_ct, seqS_exc, e_nx, e_bk, e_ct, e_drop, k_drop, k_dropx, e_ret, k_ret, k_retx, e_retN, e_ifS, k_ifSt, k_ifSf, k_ifSx, e_set, k_set, k_setx, e_asg, k_asg, k_asgx, k_asg2, e_par, k_par, e_gn, e_gs0, e_gs1, k_gs, e_gtp, e_sb, k_sb1, k_sb2,
  e_raise, k_raise, e_it, k_it, e_for, k_for, run_nil, run_cons, k_turn, k_turnN, k_turnC, k_turnB, k_turnR, k_turnX, src_str, src_tup, src_lst, src_scr, e_try, k_try, k_tryx, k_catch0, k_catchT, k_catchF, k_goneR,
  v_newT, v_newL, v_newR, v_addI, v_addL, v_addT, v_addRL, v_dif, v_eqS, v_eqI, v_neS, v_neI, v_inT, v_inL, v_niT, v_niL, v_isn, v_is, nonM, v_lenL, v_lenT, v_lenC, v_lenR, v_abs, v_intI, v_intB, v_max, v_min, v_listL, v_listT, v_listR, v_tupL, v_tupT, v_tupR, v_ltI, v_leI, v_gtI, v_geI, v_cutC, v_cutL, v_cutT, v_cutR, v_revL, v_app, v_inR, v_ixL, v_ixT, v_ixC, v_ixR,
  at_lit, at_last, ix_lit, v_mulN, v_mulM, v_mulL0, v_mulL1, Nat.zero_le, v_divN, v_powN, v_mod, sbO_some, v_sb, v_pop0, pop0_cons, Int.reduceLT, Int.reduceLE, Int.reducePow, Int.reduceNeg, Int.reduceAdd, Int.reduceSub, Int.reduceMul, h_last, h_set, fin_app, fin_self, setR_some, set_tup, set_lst, set_ref, setO_lst, Nat.lt_irrefl,
  flatM, inF_nil, inF_cons, eqF, List.all_cons, List.all_nil, List.any_cons, List.any_nil, str_beq, str_lit, String.reduceEq, decide_true, decide_false, decide_eq_true_eq, Bool.and_true, Bool.true_and, Bool.and_false, Bool.false_and, Bool.or_true, Bool.true_or, Bool.or_false, Bool.false_or, Bool.not_true, Bool.not_false, Bool.and_self, Bool.or_self,
  List.getElem?_cons_zero, List.getElem?_cons_succ, List.set_cons_zero, List.set_cons_succ, List.getElem?_nil, if_true, reduceIte, Bool.false_eq_true, belows, below, Nat.le_refl, reduceCtorEq, e_lc, k_lc, k_lc2, e_yes, l_nil, l_cons, k_l1, k_l2t, k_l2f, k_l3, e_r1, k_r1N, e_en, k_enL, k_enT, e_mkE, k_mkE, e_erF, k_erF, e_isE, wipeM]
end L
set_option Elab.async false
set_option linter.all false
set_option maxRecDepth 100000
set_option maxHeartbeats 4000000
namespace L
open PySem PySem.Spec L2 G M
local macro_rules | `(tactic| walk_at "ev") => `(tactic| simp only [e_fun, finR_rt, finR_nx, finR_exc, fin_raw, finX_raw, List.map_cons, List.map_nil, List.replicate_succ, List.replicate_zero, List.cons_append, List.nil_append, List.append_nil, List.length_cons, List.length_nil, Nat.zero_add, Nat.reduceAdd, Nat.reduceLeDiff, Nat.reduceLT, Nat.zero_lt_succ, Nat.add_one_pos,  String.reduceBEq, v_isiS, v_isiI, v_isiB, v_isiT, v_isiL, isiR_some, tyM, subT,
  e_var, getS_val, e_k, e_nil, e_cons, k_cons1, k_cons1x, k_cons2, k_cons2x, e_tup, k_tup, k_tupx, e_lst, k_lst, k_lstx, e_op, k_op1, k_op1x, k_op2, k_op2x, e_test, asB_ok, asB_x, noX_ok, e_chain, k_ch1, k_ch2, k_ch3t, k_ch3f, e_and, k_andt, k_andf, e_or, k_ort, k_orf, e_not, k_not, e_if, k_ift, k_iff,
  e_tand, k_tandt, k_tandf, e_tor, k_tort, k_torf, e_tnot, k_tnot, e_tru, k_tru, k_trux, onRef_lst, blR_t, truR_some, tru_bl, tru_int, tru_lst, tru_tup, e_cb, k_cb, k_cbx, e_on1, e_on2, e_call, k_call, k_callx, e_neg, k_neg, e_lm, k_lm, k_lm2, k_lm2x, e_sm, k_sm, e_pn, e_ps, k_ps, e_sl, k_sl1, k_sl2, k_sl3, e_rev, k_rev,
  e_errF, e_errIs, k_errF, k_errIs, opR_some, e_seq, seqS_nx, seqS_rt, seqS_bk, seqS_ct, seqS_exc, e_nx, e_bk, e_ct, e_drop, k_drop, k_dropx, e_ret, k_ret, k_retx, e_retN, e_ifS, k_ifSt, k_ifSf, k_ifSx, e_set, k_set, k_setx, e_asg, k_asg, k_asgx, k_asg2, e_par, k_par, e_gn, e_gs0, e_gs1, k_gs, e_gtp, e_sb, k_sb1, k_sb2,
  e_raise, k_raise, e_it, k_it, e_for, k_for, run_nil, run_cons, k_turn, k_turnN, k_turnC, k_turnB, k_turnR, k_turnX, src_str, src_tup, src_lst, src_scr, e_try, k_try, k_tryx, k_catch0, k_catchT, k_catchF, k_goneR,
  v_newT, v_newL, v_newR, v_addI, v_addL, v_addT, v_addRL, v_dif, v_eqS, v_eqI, v_neS, v_neI, v_inT, v_inL, v_niT, v_niL, v_isn, v_is, nonM, v_lenL, v_lenT, v_lenC, v_lenR, v_abs, v_intI, v_intB, v_max, v_min, v_listL, v_listT, v_listR, v_tupL, v_tupT, v_tupR, v_ltI, v_leI, v_gtI, v_geI, v_cutC, v_cutL, v_cutT, v_cutR, v_revL, v_app, v_inR, v_ixL, v_ixT, v_ixC, v_ixR,
  at_lit, at_last, ix_lit, v_mulN, v_mulM, v_mulL0, v_mulL1, Nat.zero_le, v_divN, v_powN, v_mod, sbO_some, v_sb, v_pop0, pop0_cons, Int.reduceLT, Int.reduceLE, Int.reducePow, Int.reduceNeg, Int.reduceAdd, Int.reduceSub, Int.reduceMul, h_last, h_set, fin_app, fin_self, setR_some, set_tup, set_lst, set_ref, setO_lst, Nat.lt_irrefl,
  flatM, inF_nil, inF_cons, eqF, List.all_cons, List.all_nil, List.any_cons, List.any_nil, str_beq, str_lit, String.reduceEq, decide_true, decide_false, decide_eq_true_eq, Bool.and_true, Bool.true_and, Bool.and_false, Bool.false_and, Bool.or_true, Bool.true_or, Bool.or_false, Bool.false_or, Bool.not_true, Bool.not_false, Bool.and_self, Bool.or_self,
  List.getElem?_cons_zero, List.getElem?_cons_succ, List.set_cons_zero, List.set_cons_succ, List.getElem?_nil, if_true, reduceIte, Bool.false_eq_true, belows, below, Nat.le_refl, reduceCtorEq, e_lc, k_lc, k_lc2, e_yes, l_nil, l_cons, k_l1, k_l2t, k_l2f, k_l3, e_r1, k_r1N, e_en, k_enL, k_enT, e_mkE, k_mkE, e_erF, k_erF, e_isE, wipeM])
local macro_rules | `(tactic| walk_at "evs") => `(tactic| simp only [*, e_fun, finR_rt, finR_nx, finR_exc, fin_raw, finX_raw, List.map_cons, List.map_nil, List.replicate_succ, List.replicate_zero, List.cons_append, List.nil_append, List.append_nil, List.length_cons, List.length_nil, Nat.zero_add, Nat.reduceAdd, Nat.reduceLeDiff, Nat.reduceLT, Nat.zero_lt_succ, Nat.add_one_pos,  String.reduceBEq, v_isiS, v_isiI, v_isiB, v_isiT, v_isiL, isiR_some, tyM, subT,
  e_var, getS_val, e_k, e_nil, e_cons, k_cons1, k_cons1x, k_cons2, k_cons2x, e_tup, k_tup, k_tupx, e_lst, k_lst, k_lstx, e_op, k_op1, k_op1x, k_op2, k_op2x, e_test, asB_ok, asB_x, noX_ok, e_chain, k_ch1, k_ch2, k_ch3t, k_ch3f, e_and, k_andt, k_andf, e_or, k_ort, k_orf, e_not, k_not, e_if, k_ift, k_iff,
  e_tand, k_tandt, k_tandf, e_tor, k_tort, k_torf, e_tnot, k_tnot, e_tru, k_tru, k_trux, onRef_lst, blR_t, truR_some, tru_bl, tru_int, tru_lst, tru_tup, e_cb, k_cb, k_cbx, e_on1, e_on2, e_call, k_call, k_callx, e_neg, k_neg, e_lm, k_lm, k_lm2, k_lm2x, e_sm, k_sm, e_pn, e_ps, k_ps, e_sl, k_sl1, k_sl2, k_sl3, e_rev, k_rev,
  e_errF, e_errIs, k_errF, k_errIs, opR_some, e_seq, seqS_nx, seqS_rt, seqS_bk, seqS_ct, seqS_exc, e_nx, e_bk, e_ct, e_drop, k_drop, k_dropx, e_ret, k_ret, k_retx, e_retN, e_ifS, k_ifSt, k_ifSf, k_ifSx, e_set, k_set, k_setx, e_asg, k_asg, k_asgx, k_asg2, e_par, k_par, e_gn, e_gs0, e_gs1, k_gs, e_gtp, e_sb, k_sb1, k_sb2,
  e_raise, k_raise, e_it, k_it, e_for, k_for, run_nil, run_cons, k_turn, k_turnN, k_turnC, k_turnB, k_turnR, k_turnX, src_str, src_tup, src_lst, src_scr, e_try, k_try, k_tryx, k_catch0, k_catchT, k_catchF, k_goneR,
  v_newT, v_newL, v_newR, v_addI, v_addL, v_addT, v_addRL, v_dif, v_eqS, v_eqI, v_neS, v_neI, v_inT, v_inL, v_niT, v_niL, v_isn, v_is, nonM, v_lenL, v_lenT, v_lenC, v_lenR, v_abs, v_intI, v_intB, v_max, v_min, v_listL, v_listT, v_listR, v_tupL, v_tupT, v_tupR, v_ltI, v_leI, v_gtI, v_geI, v_cutC, v_cutL, v_cutT, v_cutR, v_revL, v_app, v_inR, v_ixL, v_ixT, v_ixC, v_ixR,
  at_lit, at_last, ix_lit, v_mulN, v_mulM, v_mulL0, v_mulL1, Nat.zero_le, v_divN, v_powN, v_mod, sbO_some, v_sb, v_pop0, pop0_cons, Int.reduceLT, Int.reduceLE, Int.reducePow, Int.reduceNeg, Int.reduceAdd, Int.reduceSub, Int.reduceMul, h_last, h_set, fin_app, fin_self, setR_some, set_tup, set_lst, set_ref, setO_lst, Nat.lt_irrefl,
  flatM, inF_nil, inF_cons, eqF, List.all_cons, List.all_nil, List.any_cons, List.any_nil, str_beq, str_lit, String.reduceEq, decide_true, decide_false, decide_eq_true_eq, Bool.and_true, Bool.true_and, Bool.and_false, Bool.false_and, Bool.or_true, Bool.true_or, Bool.or_false, Bool.false_or, Bool.not_true, Bool.not_false, Bool.and_self, Bool.or_self,
  List.getElem?_cons_zero, List.getElem?_cons_succ, List.set_cons_zero, List.set_cons_succ, List.getElem?_nil, if_true, reduceIte, Bool.false_eq_true, belows, below, Nat.le_refl, reduceCtorEq, e_lc, k_lc, k_lc2, e_yes, l_nil, l_cons, k_l1, k_l2t, k_l2f, k_l3, e_r1, k_r1N, e_en, k_enL, k_enT, e_mkE, k_mkE, e_erF, k_erF, e_isE, wipeM])
def isR (o : Option Bool) (b : Bool) (h : MH) : R MV := if b = true then (match o with
  | some b => .ok (.bl b) h
  | none => .bad) else .bad
theorem isR_t (b : Bool) (h : MH) : isR (some b) true h = .ok (.bl b) h := rfl
theorem k_isR {α : Type} (tab : List (Str × List Str)) (kin : Str → α → Option Bool) (D : α) (c : Str) (fs : List (Str × MV)) (h : MH) : kIsE tab kin D (.ok (.er c fs) h) = isR (kin c D) (tab.lookup c).isSome h := rfl
theorem kin_of {c b D : Str} (h1 : errB.lookup c = some b) (h2 : D ∈ errN) : kinO c D = some (decide (D = c) || decide (D = b)) := by
  unfold kinO kinT
  rw [h1]
  simp only [h2, if_true]
theorem in_NoRow : (("NoRow" : Str) ∈ errN) = True := eq_true (by decide +kernel)
theorem in_NoPlace : (("NoPlace" : Str) ∈ errN) = True := eq_true (by decide +kernel)
theorem in_NoHandler : (("NoHandler" : Str) ∈ errN) = True := eq_true (by decide +kernel)
theorem in_BadName : (("BadName" : Str) ∈ errN) = True := eq_true (by decide +kernel)
theorem in_BadPlace : (("BadPlace" : Str) ∈ errN) = True := eq_true (by decide +kernel)
theorem in_BadSlide : (("BadSlide" : Str) ∈ errN) = True := eq_true (by decide +kernel)
theorem in_NoInverse : (("NoInverse" : Str) ∈ errN) = True := eq_true (by decide +kernel)
theorem in_Twice : (("Twice" : Str) ∈ errN) = True := eq_true (by decide +kernel)
theorem in_BadOperation : (("BadOperation" : Str) ∈ errN) = True := eq_true (by decide +kernel)
theorem in_BadCall : (("BadCall" : Str) ∈ errN) = True := eq_true (by decide +kernel)
theorem in_BadVisit : (("BadVisit" : Str) ∈ errN) = True := eq_true (by decide +kernel)
theorem in_BadLine : (("BadLine" : Str) ∈ errN) = True := eq_true (by decide +kernel)
theorem in_BadStep : (("BadStep" : Str) ∈ errN) = True := eq_true (by decide +kernel)
theorem in_BadText : (("BadText" : Str) ∈ errN) = True := eq_true (by decide +kernel)
theorem in_BadWorld : (("BadWorld" : Str) ∈ errN) = True := eq_true (by decide +kernel)
theorem in_BadNumber : (("BadNumber" : Str) ∈ errN) = True := eq_true (by decide +kernel)
theorem in_BadSpot : (("BadSpot" : Str) ∈ errN) = True := eq_true (by decide +kernel)
theorem in_BadBound : (("BadBound" : Str) ∈ errN) = True := eq_true (by decide +kernel)
theorem in_BadKind : (("BadKind" : Str) ∈ errN) = True := eq_true (by decide +kernel)
theorem in_OtherOperation : (("OtherOperation" : Str) ∈ errN) = True := eq_true (by decide +kernel)
theorem in_BadOrder : (("BadOrder" : Str) ∈ errN) = True := eq_true (by decide +kernel)
theorem in_BadPair : (("BadPair" : Str) ∈ errN) = True := eq_true (by decide +kernel)
theorem in_BadRule : (("BadRule" : Str) ∈ errN) = True := eq_true (by decide +kernel)
theorem in_BadMend : (("BadMend" : Str) ∈ errN) = True := eq_true (by decide +kernel)
theorem in_TooMany : (("TooMany" : Str) ∈ errN) = True := eq_true (by decide +kernel)
theorem in_Clash : (("Clash" : Str) ∈ errN) = True := eq_true (by decide +kernel)
theorem in_CallFailed : (("CallFailed" : Str) ∈ errN) = True := eq_true (by decide +kernel)
theorem in_PlaceError : (("PlaceError" : Str) ∈ errN) = True := eq_true (by decide +kernel)
theorem in_MissingError : (("MissingError" : Str) ∈ errN) = True := eq_true (by decide +kernel)
theorem kin_NoRow (D : Str) (h : D ∈ errN) : kinO "NoRow" D = some (decide (D = "NoRow") || decide (D = "MissingError")) := kin_of (by decide +kernel) h
theorem has_NoRow : (errTab.lookup ("NoRow" : Str)).isSome = true := by decide +kernel
theorem kx_NoRow_LookupError : kinX "NoRow" "LookupError" = some true := by decide +kernel
theorem kx_NoRow_ValueError : kinX "NoRow" "ValueError" = some false := by decide +kernel
theorem kin_NoPlace (D : Str) (h : D ∈ errN) : kinO "NoPlace" D = some (decide (D = "NoPlace") || decide (D = "MissingError")) := kin_of (by decide +kernel) h
theorem has_NoPlace : (errTab.lookup ("NoPlace" : Str)).isSome = true := by decide +kernel
theorem kx_NoPlace_LookupError : kinX "NoPlace" "LookupError" = some true := by decide +kernel
theorem kx_NoPlace_ValueError : kinX "NoPlace" "ValueError" = some false := by decide +kernel
theorem kin_NoHandler (D : Str) (h : D ∈ errN) : kinO "NoHandler" D = some (decide (D = "NoHandler") || decide (D = "MissingError")) := kin_of (by decide +kernel) h
theorem has_NoHandler : (errTab.lookup ("NoHandler" : Str)).isSome = true := by decide +kernel
theorem kx_NoHandler_LookupError : kinX "NoHandler" "LookupError" = some true := by decide +kernel
theorem kx_NoHandler_ValueError : kinX "NoHandler" "ValueError" = some false := by decide +kernel
theorem kin_BadName (D : Str) (h : D ∈ errN) : kinO "BadName" D = some (decide (D = "BadName") || decide (D = "PlaceError")) := kin_of (by decide +kernel) h
theorem has_BadName : (errTab.lookup ("BadName" : Str)).isSome = true := by decide +kernel
theorem kx_BadName_LookupError : kinX "BadName" "LookupError" = some false := by decide +kernel
theorem kx_BadName_ValueError : kinX "BadName" "ValueError" = some true := by decide +kernel
theorem kin_BadPlace (D : Str) (h : D ∈ errN) : kinO "BadPlace" D = some (decide (D = "BadPlace") || decide (D = "PlaceError")) := kin_of (by decide +kernel) h
theorem has_BadPlace : (errTab.lookup ("BadPlace" : Str)).isSome = true := by decide +kernel
theorem kx_BadPlace_LookupError : kinX "BadPlace" "LookupError" = some false := by decide +kernel
theorem kx_BadPlace_ValueError : kinX "BadPlace" "ValueError" = some true := by decide +kernel
theorem kin_BadSlide (D : Str) (h : D ∈ errN) : kinO "BadSlide" D = some (decide (D = "BadSlide") || decide (D = "PlaceError")) := kin_of (by decide +kernel) h
theorem has_BadSlide : (errTab.lookup ("BadSlide" : Str)).isSome = true := by decide +kernel
theorem kx_BadSlide_LookupError : kinX "BadSlide" "LookupError" = some false := by decide +kernel
theorem kx_BadSlide_ValueError : kinX "BadSlide" "ValueError" = some true := by decide +kernel
theorem kin_NoInverse (D : Str) (h : D ∈ errN) : kinO "NoInverse" D = some (decide (D = "NoInverse") || decide (D = "PlaceError")) := kin_of (by decide +kernel) h
theorem has_NoInverse : (errTab.lookup ("NoInverse" : Str)).isSome = true := by decide +kernel
theorem kx_NoInverse_LookupError : kinX "NoInverse" "LookupError" = some false := by decide +kernel
theorem kx_NoInverse_ValueError : kinX "NoInverse" "ValueError" = some true := by decide +kernel
theorem kin_Twice (D : Str) (h : D ∈ errN) : kinO "Twice" D = some (decide (D = "Twice") || decide (D = "PlaceError")) := kin_of (by decide +kernel) h
theorem has_Twice : (errTab.lookup ("Twice" : Str)).isSome = true := by decide +kernel
theorem kx_Twice_LookupError : kinX "Twice" "LookupError" = some false := by decide +kernel
theorem kx_Twice_ValueError : kinX "Twice" "ValueError" = some true := by decide +kernel
theorem kin_BadOperation (D : Str) (h : D ∈ errN) : kinO "BadOperation" D = some (decide (D = "BadOperation") || decide (D = "PlaceError")) := kin_of (by decide +kernel) h
theorem has_BadOperation : (errTab.lookup ("BadOperation" : Str)).isSome = true := by decide +kernel
theorem kx_BadOperation_LookupError : kinX "BadOperation" "LookupError" = some false := by decide +kernel
theorem kx_BadOperation_ValueError : kinX "BadOperation" "ValueError" = some true := by decide +kernel
theorem kin_BadCall (D : Str) (h : D ∈ errN) : kinO "BadCall" D = some (decide (D = "BadCall") || decide (D = "PlaceError")) := kin_of (by decide +kernel) h
theorem has_BadCall : (errTab.lookup ("BadCall" : Str)).isSome = true := by decide +kernel
theorem kx_BadCall_LookupError : kinX "BadCall" "LookupError" = some false := by decide +kernel
theorem kx_BadCall_ValueError : kinX "BadCall" "ValueError" = some true := by decide +kernel
theorem kin_BadVisit (D : Str) (h : D ∈ errN) : kinO "BadVisit" D = some (decide (D = "BadVisit") || decide (D = "PlaceError")) := kin_of (by decide +kernel) h
theorem has_BadVisit : (errTab.lookup ("BadVisit" : Str)).isSome = true := by decide +kernel
theorem kx_BadVisit_LookupError : kinX "BadVisit" "LookupError" = some false := by decide +kernel
theorem kx_BadVisit_ValueError : kinX "BadVisit" "ValueError" = some true := by decide +kernel
theorem kin_BadLine (D : Str) (h : D ∈ errN) : kinO "BadLine" D = some (decide (D = "BadLine") || decide (D = "PlaceError")) := kin_of (by decide +kernel) h
theorem has_BadLine : (errTab.lookup ("BadLine" : Str)).isSome = true := by decide +kernel
theorem kx_BadLine_LookupError : kinX "BadLine" "LookupError" = some false := by decide +kernel
theorem kx_BadLine_ValueError : kinX "BadLine" "ValueError" = some true := by decide +kernel
theorem kin_BadStep (D : Str) (h : D ∈ errN) : kinO "BadStep" D = some (decide (D = "BadStep") || decide (D = "PlaceError")) := kin_of (by decide +kernel) h
theorem has_BadStep : (errTab.lookup ("BadStep" : Str)).isSome = true := by decide +kernel
theorem kx_BadStep_LookupError : kinX "BadStep" "LookupError" = some false := by decide +kernel
theorem kx_BadStep_ValueError : kinX "BadStep" "ValueError" = some true := by decide +kernel
theorem kin_BadText (D : Str) (h : D ∈ errN) : kinO "BadText" D = some (decide (D = "BadText") || decide (D = "PlaceError")) := kin_of (by decide +kernel) h
theorem has_BadText : (errTab.lookup ("BadText" : Str)).isSome = true := by decide +kernel
theorem kx_BadText_LookupError : kinX "BadText" "LookupError" = some false := by decide +kernel
theorem kx_BadText_ValueError : kinX "BadText" "ValueError" = some true := by decide +kernel
theorem kin_BadWorld (D : Str) (h : D ∈ errN) : kinO "BadWorld" D = some (decide (D = "BadWorld") || decide (D = "PlaceError")) := kin_of (by decide +kernel) h
theorem has_BadWorld : (errTab.lookup ("BadWorld" : Str)).isSome = true := by decide +kernel
theorem kx_BadWorld_LookupError : kinX "BadWorld" "LookupError" = some false := by decide +kernel
theorem kx_BadWorld_ValueError : kinX "BadWorld" "ValueError" = some true := by decide +kernel
theorem kin_BadNumber (D : Str) (h : D ∈ errN) : kinO "BadNumber" D = some (decide (D = "BadNumber") || decide (D = "PlaceError")) := kin_of (by decide +kernel) h
theorem has_BadNumber : (errTab.lookup ("BadNumber" : Str)).isSome = true := by decide +kernel
theorem kx_BadNumber_LookupError : kinX "BadNumber" "LookupError" = some false := by decide +kernel
theorem kx_BadNumber_ValueError : kinX "BadNumber" "ValueError" = some true := by decide +kernel
theorem kin_BadSpot (D : Str) (h : D ∈ errN) : kinO "BadSpot" D = some (decide (D = "BadSpot") || decide (D = "PlaceError")) := kin_of (by decide +kernel) h
theorem has_BadSpot : (errTab.lookup ("BadSpot" : Str)).isSome = true := by decide +kernel
theorem kx_BadSpot_LookupError : kinX "BadSpot" "LookupError" = some false := by decide +kernel
theorem kx_BadSpot_ValueError : kinX "BadSpot" "ValueError" = some true := by decide +kernel
theorem kin_BadBound (D : Str) (h : D ∈ errN) : kinO "BadBound" D = some (decide (D = "BadBound") || decide (D = "PlaceError")) := kin_of (by decide +kernel) h
theorem has_BadBound : (errTab.lookup ("BadBound" : Str)).isSome = true := by decide +kernel
theorem kx_BadBound_LookupError : kinX "BadBound" "LookupError" = some false := by decide +kernel
theorem kx_BadBound_ValueError : kinX "BadBound" "ValueError" = some true := by decide +kernel
theorem kin_BadKind (D : Str) (h : D ∈ errN) : kinO "BadKind" D = some (decide (D = "BadKind") || decide (D = "PlaceError")) := kin_of (by decide +kernel) h
theorem has_BadKind : (errTab.lookup ("BadKind" : Str)).isSome = true := by decide +kernel
theorem kx_BadKind_LookupError : kinX "BadKind" "LookupError" = some false := by decide +kernel
theorem kx_BadKind_ValueError : kinX "BadKind" "ValueError" = some true := by decide +kernel
theorem kin_OtherOperation (D : Str) (h : D ∈ errN) : kinO "OtherOperation" D = some (decide (D = "OtherOperation") || decide (D = "PlaceError")) := kin_of (by decide +kernel) h
theorem has_OtherOperation : (errTab.lookup ("OtherOperation" : Str)).isSome = true := by decide +kernel
theorem kx_OtherOperation_LookupError : kinX "OtherOperation" "LookupError" = some false := by decide +kernel
theorem kx_OtherOperation_ValueError : kinX "OtherOperation" "ValueError" = some true := by decide +kernel
theorem kin_BadOrder (D : Str) (h : D ∈ errN) : kinO "BadOrder" D = some (decide (D = "BadOrder") || decide (D = "PlaceError")) := kin_of (by decide +kernel) h
theorem has_BadOrder : (errTab.lookup ("BadOrder" : Str)).isSome = true := by decide +kernel
theorem kx_BadOrder_LookupError : kinX "BadOrder" "LookupError" = some false := by decide +kernel
theorem kx_BadOrder_ValueError : kinX "BadOrder" "ValueError" = some true := by decide +kernel
theorem kin_BadPair (D : Str) (h : D ∈ errN) : kinO "BadPair" D = some (decide (D = "BadPair") || decide (D = "PlaceError")) := kin_of (by decide +kernel) h
theorem has_BadPair : (errTab.lookup ("BadPair" : Str)).isSome = true := by decide +kernel
theorem kx_BadPair_LookupError : kinX "BadPair" "LookupError" = some false := by decide +kernel
theorem kx_BadPair_ValueError : kinX "BadPair" "ValueError" = some true := by decide +kernel
theorem kin_BadRule (D : Str) (h : D ∈ errN) : kinO "BadRule" D = some (decide (D = "BadRule") || decide (D = "PlaceError")) := kin_of (by decide +kernel) h
theorem has_BadRule : (errTab.lookup ("BadRule" : Str)).isSome = true := by decide +kernel
theorem kx_BadRule_LookupError : kinX "BadRule" "LookupError" = some false := by decide +kernel
theorem kx_BadRule_ValueError : kinX "BadRule" "ValueError" = some true := by decide +kernel
theorem kin_BadMend (D : Str) (h : D ∈ errN) : kinO "BadMend" D = some (decide (D = "BadMend") || decide (D = "PlaceError")) := kin_of (by decide +kernel) h
theorem has_BadMend : (errTab.lookup ("BadMend" : Str)).isSome = true := by decide +kernel
theorem kx_BadMend_LookupError : kinX "BadMend" "LookupError" = some false := by decide +kernel
theorem kx_BadMend_ValueError : kinX "BadMend" "ValueError" = some true := by decide +kernel
theorem kin_TooMany (D : Str) (h : D ∈ errN) : kinO "TooMany" D = some (decide (D = "TooMany") || decide (D = "PlaceError")) := kin_of (by decide +kernel) h
theorem has_TooMany : (errTab.lookup ("TooMany" : Str)).isSome = true := by decide +kernel
theorem kx_TooMany_LookupError : kinX "TooMany" "LookupError" = some false := by decide +kernel
theorem kx_TooMany_ValueError : kinX "TooMany" "ValueError" = some true := by decide +kernel
theorem kin_Clash (D : Str) (h : D ∈ errN) : kinO "Clash" D = some (decide (D = "Clash") || decide (D = "PlaceError")) := kin_of (by decide +kernel) h
theorem has_Clash : (errTab.lookup ("Clash" : Str)).isSome = true := by decide +kernel
theorem kx_Clash_LookupError : kinX "Clash" "LookupError" = some false := by decide +kernel
theorem kx_Clash_ValueError : kinX "Clash" "ValueError" = some true := by decide +kernel
theorem kin_CallFailed (D : Str) (h : D ∈ errN) : kinO "CallFailed" D = some (decide (D = "CallFailed") || decide (D = "PlaceError")) := kin_of (by decide +kernel) h
theorem has_CallFailed : (errTab.lookup ("CallFailed" : Str)).isSome = true := by decide +kernel
theorem kx_CallFailed_LookupError : kinX "CallFailed" "LookupError" = some false := by decide +kernel
theorem kx_CallFailed_ValueError : kinX "CallFailed" "ValueError" = some true := by decide +kernel
def hot (k : Nat) : List Bool := (List.range 27).map fun j => decide (j = k)
def hotM (k : Nat) : List MV := (hot k).map MV.bl
theorem dat_bools : ∀ bs : List Bool, datVs (bs.map MV.bl) = some (bs.map PyData.bool)
  | [] => rfl
  | b :: r => by
    show ((some (PyData.bool b)).bind fun d => (datVs (r.map MV.bl)).map (d :: ·)) = _
    rw [dat_bools r]
    rfl
theorem shaped_hot (k : Nat) : SeqAt.shaped (.list ((hot k).map PyData.bool)) = true := by rfl
theorem ne_hot (k : Nat) (h : MH) : gNe (.lst (hotM k)) (.lst (hotM k)) h = .ok (.bl false) h := by
  refine ne_self (d := .list ((hot k).map PyData.bool)) ?_ (shaped_hot k) rfl
  show (datVs ((hot k).map MV.bl)).map PyData.list = _
  rw [dat_bools]
  rfl
theorem cls_NoRow (a : MV) (h : MH) : F__law_classes [.er "NoRow" [("row", a)]] h = .ok (.lst (hotM 0)) h := by
  unfold F__law_classes
  simp only [k_isR, isR_t, in_NoRow, in_NoPlace, in_NoHandler, in_BadName, in_BadPlace, in_BadSlide, in_NoInverse, in_Twice, in_BadOperation, in_BadCall, in_BadVisit, in_BadLine, in_BadStep, in_BadText, in_BadWorld, in_BadNumber, in_BadSpot, in_BadBound, in_BadKind, in_OtherOperation, in_BadOrder, in_BadPair, in_BadRule, in_BadMend, in_TooMany, in_Clash, in_CallFailed, in_PlaceError, in_MissingError, kin_NoRow, kin_NoPlace, kin_NoHandler, kin_BadName, kin_BadPlace, kin_BadSlide, kin_NoInverse, kin_Twice, kin_BadOperation, kin_BadCall, kin_BadVisit, kin_BadLine, kin_BadStep, kin_BadText, kin_BadWorld, kin_BadNumber, kin_BadSpot, kin_BadBound, kin_BadKind, kin_OtherOperation, kin_BadOrder, kin_BadPair, kin_BadRule, kin_BadMend, kin_TooMany, kin_Clash, kin_CallFailed, has_NoRow, has_NoPlace, has_NoHandler, has_BadName, has_BadPlace, has_BadSlide, has_NoInverse, has_Twice, has_BadOperation, has_BadCall, has_BadVisit, has_BadLine, has_BadStep, has_BadText, has_BadWorld, has_BadNumber, has_BadSpot, has_BadBound, has_BadKind, has_OtherOperation, has_BadOrder, has_BadPair, has_BadRule, has_BadMend, has_TooMany, has_Clash, has_CallFailed, kx_NoRow_LookupError, kx_NoRow_ValueError, kx_NoPlace_LookupError, kx_NoPlace_ValueError, kx_NoHandler_LookupError, kx_NoHandler_ValueError, kx_BadName_LookupError, kx_BadName_ValueError, kx_BadPlace_LookupError, kx_BadPlace_ValueError, kx_BadSlide_LookupError, kx_BadSlide_ValueError, kx_NoInverse_LookupError, kx_NoInverse_ValueError, kx_Twice_LookupError, kx_Twice_ValueError, kx_BadOperation_LookupError, kx_BadOperation_ValueError, kx_BadCall_LookupError, kx_BadCall_ValueError, kx_BadVisit_LookupError, kx_BadVisit_ValueError, kx_BadLine_LookupError, kx_BadLine_ValueError, kx_BadStep_LookupError, kx_BadStep_ValueError, kx_BadText_LookupError, kx_BadText_ValueError, kx_BadWorld_LookupError, kx_BadWorld_ValueError, kx_BadNumber_LookupError, kx_BadNumber_ValueError, kx_BadSpot_LookupError, kx_BadSpot_ValueError, kx_BadBound_LookupError, kx_BadBound_ValueError, kx_BadKind_LookupError, kx_BadKind_ValueError, kx_OtherOperation_LookupError, kx_OtherOperation_ValueError, kx_BadOrder_LookupError, kx_BadOrder_ValueError, kx_BadPair_LookupError, kx_BadPair_ValueError, kx_BadRule_LookupError, kx_BadRule_ValueError, kx_BadMend_LookupError, kx_BadMend_ValueError, kx_TooMany_LookupError, kx_TooMany_ValueError, kx_Clash_LookupError, kx_Clash_ValueError, kx_CallFailed_LookupError, kx_CallFailed_ValueError, e_fun, finR_rt, finR_nx, finR_exc, fin_raw, finX_raw, List.map_cons, List.map_nil, List.replicate_succ, List.replicate_zero, List.cons_append, List.nil_append, List.append_nil, List.length_cons, List.length_nil, Nat.zero_add, Nat.reduceAdd, Nat.reduceLeDiff, Nat.reduceLT, Nat.zero_lt_succ, Nat.add_one_pos,  String.reduceBEq, v_isiS, v_isiI, v_isiB, v_isiT, v_isiL, isiR_some, tyM, subT,
  e_var, getS_val, e_k, e_nil, e_cons, k_cons1, k_cons1x, k_cons2, k_cons2x, e_tup, k_tup, k_tupx, e_lst, k_lst, k_lstx, e_op, k_op1, k_op1x, k_op2, k_op2x, e_test, asB_ok, asB_x, noX_ok, e_chain, k_ch1, k_ch2, k_ch3t, k_ch3f, e_and, k_andt, k_andf, e_or, k_ort, k_orf, e_not, k_not, e_if, k_ift, k_iff,
  e_tand, k_tandt, k_tandf, e_tor, k_tort, k_torf, e_tnot, k_tnot, e_tru, k_tru, k_trux, onRef_lst, blR_t, truR_some, tru_bl, tru_int, tru_lst, tru_tup, e_cb, k_cb, k_cbx, e_on1, e_on2, e_call, k_call, k_callx, e_neg, k_neg, e_lm, k_lm, k_lm2, k_lm2x, e_sm, k_sm, e_pn, e_ps, k_ps, e_sl, k_sl1, k_sl2, k_sl3, e_rev, k_rev,
  e_errF, e_errIs, k_errF, k_errIs, opR_some, e_seq, seqS_nx, seqS_rt, seqS_bk, seqS_ct, seqS_exc, e_nx, e_bk, e_ct, e_drop, k_drop, k_dropx, e_ret, k_ret, k_retx, e_retN, e_ifS, k_ifSt, k_ifSf, k_ifSx, e_set, k_set, k_setx, e_asg, k_asg, k_asgx, k_asg2, e_par, k_par, e_gn, e_gs0, e_gs1, k_gs, e_gtp, e_sb, k_sb1, k_sb2,
  e_raise, k_raise, e_it, k_it, e_for, k_for, run_nil, run_cons, k_turn, k_turnN, k_turnC, k_turnB, k_turnR, k_turnX, src_str, src_tup, src_lst, src_scr, e_try, k_try, k_tryx, k_catch0, k_catchT, k_catchF, k_goneR,
  v_newT, v_newL, v_newR, v_addI, v_addL, v_addT, v_addRL, v_dif, v_eqS, v_eqI, v_neS, v_neI, v_inT, v_inL, v_niT, v_niL, v_isn, v_is, nonM, v_lenL, v_lenT, v_lenC, v_lenR, v_abs, v_intI, v_intB, v_max, v_min, v_listL, v_listT, v_listR, v_tupL, v_tupT, v_tupR, v_ltI, v_leI, v_gtI, v_geI, v_cutC, v_cutL, v_cutT, v_cutR, v_revL, v_app, v_inR, v_ixL, v_ixT, v_ixC, v_ixR,
  at_lit, at_last, ix_lit, v_mulN, v_mulM, v_mulL0, v_mulL1, Nat.zero_le, v_divN, v_powN, v_mod, sbO_some, v_sb, v_pop0, pop0_cons, Int.reduceLT, Int.reduceLE, Int.reducePow, Int.reduceNeg, Int.reduceAdd, Int.reduceSub, Int.reduceMul, h_last, h_set, fin_app, fin_self, setR_some, set_tup, set_lst, set_ref, setO_lst, Nat.lt_irrefl,
  flatM, inF_nil, inF_cons, eqF, List.all_cons, List.all_nil, List.any_cons, List.any_nil, str_beq, str_lit, String.reduceEq, decide_true, decide_false, decide_eq_true_eq, Bool.and_true, Bool.true_and, Bool.and_false, Bool.false_and, Bool.or_true, Bool.true_or, Bool.or_false, Bool.false_or, Bool.not_true, Bool.not_false, Bool.and_self, Bool.or_self,
  List.getElem?_cons_zero, List.getElem?_cons_succ, List.set_cons_zero, List.set_cons_succ, List.getElem?_nil, if_true, reduceIte, Bool.false_eq_true, belows, below, Nat.le_refl, reduceCtorEq, e_lc, k_lc, k_lc2, e_yes, l_nil, l_cons, k_l1, k_l2t, k_l2f, k_l3, e_r1, k_r1N, e_en, k_enL, k_enT, e_mkE, k_mkE, e_erF, k_erF, e_isE, wipeM]
  rfl
end L
set_option Elab.async false
set_option linter.all false
set_option maxRecDepth 100000
set_option maxHeartbeats 4000000
namespace L
open PySem PySem.Spec L2 G M
local macro_rules | `(tactic| walk_at "ev") => `(tactic| simp only [e_fun, finR_rt, finR_nx, finR_exc, fin_raw, finX_raw, List.map_cons, List.map_nil, List.replicate_succ, List.replicate_zero, List.cons_append, List.nil_append, List.append_nil, List.length_cons, List.length_nil, Nat.zero_add, Nat.reduceAdd, Nat.reduceLeDiff, Nat.reduceLT, Nat.zero_lt_succ, Nat.add_one_pos,  String.reduceBEq, v_isiS, v_isiI, v_isiB, v_isiT, v_isiL, isiR_some, tyM, subT,
  e_var, getS_val, e_k, e_nil, e_cons, k_cons1, k_cons1x, k_cons2, k_cons2x, e_tup, k_tup, k_tupx, e_lst, k_lst, k_lstx, e_op, k_op1, k_op1x, k_op2, k_op2x, e_test, asB_ok, asB_x, noX_ok, e_chain, k_ch1, k_ch2, k_ch3t, k_ch3f, e_and, k_andt, k_andf, e_or, k_ort, k_orf, e_not, k_not, e_if, k_ift, k_iff,
  e_tand, k_tandt, k_tandf, e_tor, k_tort, k_torf, e_tnot, k_tnot, e_tru, k_tru, k_trux, onRef_lst, blR_t, truR_some, tru_bl, tru_int, tru_lst, tru_tup, e_cb, k_cb, k_cbx, e_on1, e_on2, e_call, k_call, k_callx, e_neg, k_neg, e_lm, k_lm, k_lm2, k_lm2x, e_sm, k_sm, e_pn, e_ps, k_ps, e_sl, k_sl1, k_sl2, k_sl3, e_rev, k_rev,
  e_errF, e_errIs, k_errF, k_errIs, opR_some, e_seq, seqS_nx, seqS_rt, seqS_bk, seqS_ct, seqS_exc, e_nx, e_bk, e_ct, e_drop, k_drop, k_dropx, e_ret, k_ret, k_retx, e_retN, e_ifS, k_ifSt, k_ifSf, k_ifSx, e_set, k_set, k_setx, e_asg, k_asg, k_asgx, k_asg2, e_par, k_par, e_gn, e_gs0, e_gs1, k_gs, e_gtp, e_sb, k_sb1, k_sb2,
  e_raise, k_raise, e_it, k_it, e_for, k_for, run_nil, run_cons, k_turn, k_turnN, k_turnC, k_turnB, k_turnR, k_turnX, src_str, src_tup, src_lst, src_scr, e_try, k_try, k_tryx, k_catch0, k_catchT, k_catchF, k_goneR,
  v_newT, v_newL, v_newR, v_addI, v_addL, v_addT, v_addRL, v_dif, v_eqS, v_eqI, v_neS, v_neI, v_inT, v_inL, v_niT, v_niL, v_isn, v_is, nonM, v_lenL, v_lenT, v_lenC, v_lenR, v_abs, v_intI, v_intB, v_max, v_min, v_listL, v_listT, v_listR, v_tupL, v_tupT, v_tupR, v_ltI, v_leI, v_gtI, v_geI, v_cutC, v_cutL, v_cutT, v_cutR, v_revL, v_app, v_inR, v_ixL, v_ixT, v_ixC, v_ixR,
  at_lit, at_last, ix_lit, v_mulN, v_mulM, v_mulL0, v_mulL1, Nat.zero_le, v_divN, v_powN, v_mod, sbO_some, v_sb, v_pop0, pop0_cons, Int.reduceLT, Int.reduceLE, Int.reducePow, Int.reduceNeg, Int.reduceAdd, Int.reduceSub, Int.reduceMul, h_last, h_set, fin_app, fin_self, setR_some, set_tup, set_lst, set_ref, setO_lst, Nat.lt_irrefl,
  flatM, inF_nil, inF_cons, eqF, List.all_cons, List.all_nil, List.any_cons, List.any_nil, str_beq, str_lit, String.reduceEq, decide_true, decide_false, decide_eq_true_eq, Bool.and_true, Bool.true_and, Bool.and_false, Bool.false_and, Bool.or_true, Bool.true_or, Bool.or_false, Bool.false_or, Bool.not_true, Bool.not_false, Bool.and_self, Bool.or_self,
  List.getElem?_cons_zero, List.getElem?_cons_succ, List.set_cons_zero, List.set_cons_succ, List.getElem?_nil, if_true, reduceIte, Bool.false_eq_true, belows, below, Nat.le_refl, reduceCtorEq, e_lc, k_lc, k_lc2, e_yes, l_nil, l_cons, k_l1, k_l2t, k_l2f, k_l3, e_r1, k_r1N, e_en, k_enL, k_enT, e_mkE, k_mkE, e_erF, k_erF, e_isE, wipeM])
local macro_rules | `(tactic| walk_at "evs") => `(tactic| simp only [*, e_fun, finR_rt, finR_nx, finR_exc, fin_raw, finX_raw, List.map_cons, List.map_nil, List.replicate_succ, List.replicate_zero, List.cons_append, List.nil_append, List.append_nil, List.length_cons, List.length_nil, Nat.zero_add, Nat.reduceAdd, Nat.reduceLeDiff, Nat.reduceLT, Nat.zero_lt_succ, Nat.add_one_pos,  String.reduceBEq, v_isiS, v_isiI, v_isiB, v_isiT, v_isiL, isiR_some, tyM, subT,
  e_var, getS_val, e_k, e_nil, e_cons, k_cons1, k_cons1x, k_cons2, k_cons2x, e_tup, k_tup, k_tupx, e_lst, k_lst, k_lstx, e_op, k_op1, k_op1x, k_op2, k_op2x, e_test, asB_ok, asB_x, noX_ok, e_chain, k_ch1, k_ch2, k_ch3t, k_ch3f, e_and, k_andt, k_andf, e_or, k_ort, k_orf, e_not, k_not, e_if, k_ift, k_iff,
  e_tand, k_tandt, k_tandf, e_tor, k_tort, k_torf, e_tnot, k_tnot, e_tru, k_tru, k_trux, onRef_lst, blR_t, truR_some, tru_bl, tru_int, tru_lst, tru_tup, e_cb, k_cb, k_cbx, e_on1, e_on2, e_call, k_call, k_callx, e_neg, k_neg, e_lm, k_lm, k_lm2, k_lm2x, e_sm, k_sm, e_pn, e_ps, k_ps, e_sl, k_sl1, k_sl2, k_sl3, e_rev, k_rev,
  e_errF, e_errIs, k_errF, k_errIs, opR_some, e_seq, seqS_nx, seqS_rt, seqS_bk, seqS_ct, seqS_exc, e_nx, e_bk, e_ct, e_drop, k_drop, k_dropx, e_ret, k_ret, k_retx, e_retN, e_ifS, k_ifSt, k_ifSf, k_ifSx, e_set, k_set, k_setx, e_asg, k_asg, k_asgx, k_asg2, e_par, k_par, e_gn, e_gs0, e_gs1, k_gs, e_gtp, e_sb, k_sb1, k_sb2,
  e_raise, k_raise, e_it, k_it, e_for, k_for, run_nil, run_cons, k_turn, k_turnN, k_turnC, k_turnB, k_turnR, k_turnX, src_str, src_tup, src_lst, src_scr, e_try, k_try, k_tryx, k_catch0, k_catchT, k_catchF, k_goneR,
  v_newT, v_newL, v_newR, v_addI, v_addL, v_addT, v_addRL, v_dif, v_eqS, v_eqI, v_neS, v_neI, v_inT, v_inL, v_niT, v_niL, v_isn, v_is, nonM, v_lenL, v_lenT, v_lenC, v_lenR, v_abs, v_intI, v_intB, v_max, v_min, v_listL, v_listT, v_listR, v_tupL, v_tupT, v_tupR, v_ltI, v_leI, v_gtI, v_geI, v_cutC, v_cutL, v_cutT, v_cutR, v_revL, v_app, v_inR, v_ixL, v_ixT, v_ixC, v_ixR,
  at_lit, at_last, ix_lit, v_mulN, v_mulM, v_mulL0, v_mulL1, Nat.zero_le, v_divN, v_powN, v_mod, sbO_some, v_sb, v_pop0, pop0_cons, Int.reduceLT, Int.reduceLE, Int.reducePow, Int.reduceNeg, Int.reduceAdd, Int.reduceSub, Int.reduceMul, h_last, h_set, fin_app, fin_self, setR_some, set_tup, set_lst, set_ref, setO_lst, Nat.lt_irrefl,
  flatM, inF_nil, inF_cons, eqF, List.all_cons, List.all_nil, List.any_cons, List.any_nil, str_beq, str_lit, String.reduceEq, decide_true, decide_false, decide_eq_true_eq, Bool.and_true, Bool.true_and, Bool.and_false, Bool.false_and, Bool.or_true, Bool.true_or, Bool.or_false, Bool.false_or, Bool.not_true, Bool.not_false, Bool.and_self, Bool.or_self,
  List.getElem?_cons_zero, List.getElem?_cons_succ, List.set_cons_zero, List.set_cons_succ, List.getElem?_nil, if_true, reduceIte, Bool.false_eq_true, belows, below, Nat.le_refl, reduceCtorEq, e_lc, k_lc, k_lc2, e_yes, l_nil, l_cons, k_l1, k_l2t, k_l2f, k_l3, e_r1, k_r1N, e_en, k_enL, k_enT, e_mkE, k_mkE, e_erF, k_erF, e_isE, wipeM])
theorem v_neB (x : Bool) (h : MH) : gNe (.bl x) (.bl x) h = .ok (.bl false) h := by cases x <;> rfl
theorem ne_two (x y : Bool) (h : MH) : gNe (.lst [.bl x, .bl y]) (.lst [.bl x, .bl y]) h = .ok (.bl false) h := ne_self (d := .list [.bool x, .bool y]) rfl rfl rfl
theorem rng27 : rangeM 0 27 = [.int 0, .int 1, .int 2, .int 3, .int 4, .int 5, .int 6, .int 7, .int 8, .int 9, .int 10, .int 11, .int 12, .int 13, .int 14, .int 15, .int 16, .int 17, .int 18, .int 19, .int 20, .int 21, .int 22, .int 23, .int 24, .int 25, .int 26] := by rfl
theorem hot_ok (k : Nat) (i : Int) (hi : i = (k : Int)) (s0 s1 s2 s3 s4 s5 s6 s7 s8 s9 s10 s12 s13 s14 s15 s16 : Sl) (h : MH) : mLc false (mR1 (mCons (mK (.int 27)) mNil)) (gN 16) mYes (mOp gEq (mVar 16) (mVar 11)) [16] [s0, s1, s2, s3, s4, s5, s6, s7, s8, s9, s10, .val (.int i), s12, s13, s14, s15, s16] h = .ok (.lst (hotM k)) h := by
  subst hi
  simp only [rng27, e_fun, finR_rt, finR_nx, finR_exc, fin_raw, finX_raw, List.map_cons, List.map_nil, List.replicate_succ, List.replicate_zero, List.cons_append, List.nil_append, List.append_nil, List.length_cons, List.length_nil, Nat.zero_add, Nat.reduceAdd, Nat.reduceLeDiff, Nat.reduceLT, Nat.zero_lt_succ, Nat.add_one_pos,  String.reduceBEq, v_isiS, v_isiI, v_isiB, v_isiT, v_isiL, isiR_some, tyM, subT,
  e_var, getS_val, e_k, e_nil, e_cons, k_cons1, k_cons1x, k_cons2, k_cons2x, e_tup, k_tup, k_tupx, e_lst, k_lst, k_lstx, e_op, k_op1, k_op1x, k_op2, k_op2x, e_test, asB_ok, asB_x, noX_ok, e_chain, k_ch1, k_ch2, k_ch3t, k_ch3f, e_and, k_andt, k_andf, e_or, k_ort, k_orf, e_not, k_not, e_if, k_ift, k_iff,
  e_tand, k_tandt, k_tandf, e_tor, k_tort, k_torf, e_tnot, k_tnot, e_tru, k_tru, k_trux, onRef_lst, blR_t, truR_some, tru_bl, tru_int, tru_lst, tru_tup, e_cb, k_cb, k_cbx, e_on1, e_on2, e_call, k_call, k_callx, e_neg, k_neg, e_lm, k_lm, k_lm2, k_lm2x, e_sm, k_sm, e_pn, e_ps, k_ps, e_sl, k_sl1, k_sl2, k_sl3, e_rev, k_rev,
  e_errF, e_errIs, k_errF, k_errIs, opR_some, e_seq, seqS_nx, seqS_rt, seqS_bk, seqS_ct, seqS_exc, e_nx, e_bk, e_ct, e_drop, k_drop, k_dropx, e_ret, k_ret, k_retx, e_retN, e_ifS, k_ifSt, k_ifSf, k_ifSx, e_set, k_set, k_setx, e_asg, k_asg, k_asgx, k_asg2, e_par, k_par, e_gn, e_gs0, e_gs1, k_gs, e_gtp, e_sb, k_sb1, k_sb2,
  e_raise, k_raise, e_it, k_it, e_for, k_for, run_nil, run_cons, k_turn, k_turnN, k_turnC, k_turnB, k_turnR, k_turnX, src_str, src_tup, src_lst, src_scr, e_try, k_try, k_tryx, k_catch0, k_catchT, k_catchF, k_goneR,
  v_newT, v_newL, v_newR, v_addI, v_addL, v_addT, v_addRL, v_dif, v_eqS, v_eqI, v_neS, v_neI, v_inT, v_inL, v_niT, v_niL, v_isn, v_is, nonM, v_lenL, v_lenT, v_lenC, v_lenR, v_abs, v_intI, v_intB, v_max, v_min, v_listL, v_listT, v_listR, v_tupL, v_tupT, v_tupR, v_ltI, v_leI, v_gtI, v_geI, v_cutC, v_cutL, v_cutT, v_cutR, v_revL, v_app, v_inR, v_ixL, v_ixT, v_ixC, v_ixR,
  at_lit, at_last, ix_lit, v_mulN, v_mulM, v_mulL0, v_mulL1, Nat.zero_le, v_divN, v_powN, v_mod, sbO_some, v_sb, v_pop0, pop0_cons, Int.reduceLT, Int.reduceLE, Int.reducePow, Int.reduceNeg, Int.reduceAdd, Int.reduceSub, Int.reduceMul, h_last, h_set, fin_app, fin_self, setR_some, set_tup, set_lst, set_ref, setO_lst, Nat.lt_irrefl,
  flatM, inF_nil, inF_cons, eqF, List.all_cons, List.all_nil, List.any_cons, List.any_nil, str_beq, str_lit, String.reduceEq, decide_true, decide_false, decide_eq_true_eq, Bool.and_true, Bool.true_and, Bool.and_false, Bool.false_and, Bool.or_true, Bool.true_or, Bool.or_false, Bool.false_or, Bool.not_true, Bool.not_false, Bool.and_self, Bool.or_self,
  List.getElem?_cons_zero, List.getElem?_cons_succ, List.set_cons_zero, List.set_cons_succ, List.getElem?_nil, if_true, reduceIte, Bool.false_eq_true, belows, below, Nat.le_refl, reduceCtorEq, e_lc, k_lc, k_lc2, e_yes, l_nil, l_cons, k_l1, k_l2t, k_l2f, k_l3, e_r1, k_r1N, e_en, k_enL, k_enT, e_mkE, k_mkE, e_erF, k_erF, e_isE, wipeM]
  have e : ∀ j : Nat, decide ((j : Int) = (k : Int)) = decide (j = k) := fun j => by
    rw [Bool.eq_iff_iff, decide_eq_true_eq, decide_eq_true_eq]
    omega
  have ee := fun j => congrArg MV.bl (e j)
  show R.ok (MV.lst [MV.bl (decide (((0 : Nat) : Int) = (k : Int))), MV.bl (decide (((1 : Nat) : Int) = (k : Int))), MV.bl (decide (((2 : Nat) : Int) = (k : Int))), MV.bl (decide (((3 : Nat) : Int) = (k : Int))), MV.bl (decide (((4 : Nat) : Int) = (k : Int))), MV.bl (decide (((5 : Nat) : Int) = (k : Int))), MV.bl (decide (((6 : Nat) : Int) = (k : Int))), MV.bl (decide (((7 : Nat) : Int) = (k : Int))), MV.bl (decide (((8 : Nat) : Int) = (k : Int))), MV.bl (decide (((9 : Nat) : Int) = (k : Int))), MV.bl (decide (((10 : Nat) : Int) = (k : Int))), MV.bl (decide (((11 : Nat) : Int) = (k : Int))), MV.bl (decide (((12 : Nat) : Int) = (k : Int))), MV.bl (decide (((13 : Nat) : Int) = (k : Int))), MV.bl (decide (((14 : Nat) : Int) = (k : Int))), MV.bl (decide (((15 : Nat) : Int) = (k : Int))), MV.bl (decide (((16 : Nat) : Int) = (k : Int))), MV.bl (decide (((17 : Nat) : Int) = (k : Int))), MV.bl (decide (((18 : Nat) : Int) = (k : Int))), MV.bl (decide (((19 : Nat) : Int) = (k : Int))), MV.bl (decide (((20 : Nat) : Int) = (k : Int))), MV.bl (decide (((21 : Nat) : Int) = (k : Int))), MV.bl (decide (((22 : Nat) : Int) = (k : Int))), MV.bl (decide (((23 : Nat) : Int) = (k : Int))), MV.bl (decide (((24 : Nat) : Int) = (k : Int))), MV.bl (decide (((25 : Nat) : Int) = (k : Int))), MV.bl (decide (((26 : Nat) : Int) = (k : Int)))]) h = _
  simp only [ee]
  rfl
theorem turn_NoRow (a : MV) (s0 s1 s2 s3 s4 s5 s6 s7 s8 s9 s10 s13 s14 s15 s16 : Sl) (h : MH) : B_law_2 [s0, s1, s2, s3, s4, s5, s6, s7, s8, s9, s10, .val (.int 0), .val (.er "NoRow" [("row", a)]), s13, s14, s15, s16] h = .ok .nx [s0, s1, s2, s3, s4, s5, s6, s7, s8, s9, s10, .val (.int 0), .val (.er "NoRow" [("row", a)]), .val (.lst [.bl true, .bl true]), s14, s15, s16] h := by
  have hc := hot_ok 0 0 rfl s0 s1 s2 s3 s4 s5 s6 s7 s8 s9 s10 (.val (.er "NoRow" [("row", a)])) s13 s14 s15 s16 (h := h)
  rw [B_law_2_eq]
  simp only [↓hc, cls_NoRow, ne_hot, ne_two, v_neB, Int.reduceLT, Int.reduceGT, k_isR, isR_t, in_NoRow, in_NoPlace, in_NoHandler, in_BadName, in_BadPlace, in_BadSlide, in_NoInverse, in_Twice, in_BadOperation, in_BadCall, in_BadVisit, in_BadLine, in_BadStep, in_BadText, in_BadWorld, in_BadNumber, in_BadSpot, in_BadBound, in_BadKind, in_OtherOperation, in_BadOrder, in_BadPair, in_BadRule, in_BadMend, in_TooMany, in_Clash, in_CallFailed, in_PlaceError, in_MissingError, kin_NoRow, has_NoRow, kx_NoRow_LookupError, kx_NoRow_ValueError, e_fun, finR_rt, finR_nx, finR_exc, fin_raw, finX_raw, List.map_cons, List.map_nil, List.replicate_succ, List.replicate_zero, List.cons_append, List.nil_append, List.append_nil, List.length_cons, List.length_nil, Nat.zero_add, Nat.reduceAdd, Nat.reduceLeDiff, Nat.reduceLT, Nat.zero_lt_succ, Nat.add_one_pos,  String.reduceBEq, v_isiS, v_isiI, v_isiB, v_isiT, v_isiL, isiR_some, tyM, subT,
  e_var, getS_val, e_k, e_nil, e_cons, k_cons1, k_cons1x, k_cons2, k_cons2x, e_tup, k_tup, k_tupx, e_lst, k_lst, k_lstx, e_op, k_op1, k_op1x, k_op2, k_op2x, e_test, asB_ok, asB_x, noX_ok, e_chain, k_ch1, k_ch2, k_ch3t, k_ch3f, e_and, k_andt, k_andf, e_or, k_ort, k_orf, e_not, k_not, e_if, k_ift, k_iff,
  e_tand, k_tandt, k_tandf, e_tor, k_tort, k_torf, e_tnot, k_tnot, e_tru, k_tru, k_trux, onRef_lst, blR_t, truR_some, tru_bl, tru_int, tru_lst, tru_tup, e_cb, k_cb, k_cbx, e_on1, e_on2, e_call, k_call, k_callx, e_neg, k_neg, e_lm, k_lm, k_lm2, k_lm2x, e_sm, k_sm, e_pn, e_ps, k_ps, e_sl, k_sl1, k_sl2, k_sl3, e_rev, k_rev,
  e_errF, e_errIs, k_errF, k_errIs, opR_some, e_seq, seqS_nx, seqS_rt, seqS_bk, seqS_ct, seqS_exc, e_nx, e_bk, e_ct, e_drop, k_drop, k_dropx, e_ret, k_ret, k_retx, e_retN, e_ifS, k_ifSt, k_ifSf, k_ifSx, e_set, k_set, k_setx, e_asg, k_asg, k_asgx, k_asg2, e_par, k_par, e_gn, e_gs0, e_gs1, k_gs, e_gtp, e_sb, k_sb1, k_sb2,
  e_raise, k_raise, e_it, k_it, e_for, k_for, run_nil, run_cons, k_turn, k_turnN, k_turnC, k_turnB, k_turnR, k_turnX, src_str, src_tup, src_lst, src_scr, e_try, k_try, k_tryx, k_catch0, k_catchT, k_catchF, k_goneR,
  v_newT, v_newL, v_newR, v_addI, v_addL, v_addT, v_addRL, v_dif, v_eqS, v_eqI, v_neS, v_neI, v_inT, v_inL, v_niT, v_niL, v_isn, v_is, nonM, v_lenL, v_lenT, v_lenC, v_lenR, v_abs, v_intI, v_intB, v_max, v_min, v_listL, v_listT, v_listR, v_tupL, v_tupT, v_tupR, v_ltI, v_leI, v_gtI, v_geI, v_cutC, v_cutL, v_cutT, v_cutR, v_revL, v_app, v_inR, v_ixL, v_ixT, v_ixC, v_ixR,
  at_lit, at_last, ix_lit, v_mulN, v_mulM, v_mulL0, v_mulL1, Nat.zero_le, v_divN, v_powN, v_mod, sbO_some, v_sb, v_pop0, pop0_cons, Int.reduceLT, Int.reduceLE, Int.reducePow, Int.reduceNeg, Int.reduceAdd, Int.reduceSub, Int.reduceMul, h_last, h_set, fin_app, fin_self, setR_some, set_tup, set_lst, set_ref, setO_lst, Nat.lt_irrefl,
  flatM, inF_nil, inF_cons, eqF, List.all_cons, List.all_nil, List.any_cons, List.any_nil, str_beq, str_lit, String.reduceEq, decide_true, decide_false, decide_eq_true_eq, Bool.and_true, Bool.true_and, Bool.and_false, Bool.false_and, Bool.or_true, Bool.true_or, Bool.or_false, Bool.false_or, Bool.not_true, Bool.not_false, Bool.and_self, Bool.or_self,
  List.getElem?_cons_zero, List.getElem?_cons_succ, List.set_cons_zero, List.set_cons_succ, List.getElem?_nil, if_true, reduceIte, Bool.false_eq_true, belows, below, Nat.le_refl, reduceCtorEq, e_lc, k_lc, k_lc2, e_yes, l_nil, l_cons, k_l1, k_l2t, k_l2f, k_l3, e_r1, k_r1N, e_en, k_enL, k_enT, e_mkE, k_mkE, e_erF, k_erF, e_isE, wipeM]
theorem cls_NoPlace (a b : MV) (h : MH) : F__law_classes [(.er "NoPlace" [("lst", a), ("place", b)])] h = .ok (.lst (hotM 1)) h := by
  unfold F__law_classes
  simp only [k_isR, isR_t, in_NoRow, in_NoPlace, in_NoHandler, in_BadName, in_BadPlace, in_BadSlide, in_NoInverse, in_Twice, in_BadOperation, in_BadCall, in_BadVisit, in_BadLine, in_BadStep, in_BadText, in_BadWorld, in_BadNumber, in_BadSpot, in_BadBound, in_BadKind, in_OtherOperation, in_BadOrder, in_BadPair, in_BadRule, in_BadMend, in_TooMany, in_Clash, in_CallFailed, in_PlaceError, in_MissingError, kin_NoPlace, has_NoPlace, kx_NoPlace_LookupError, kx_NoPlace_ValueError, e_fun, finR_rt, finR_nx, finR_exc, fin_raw, finX_raw, List.map_cons, List.map_nil, List.replicate_succ, List.replicate_zero, List.cons_append, List.nil_append, List.append_nil, List.length_cons, List.length_nil, Nat.zero_add, Nat.reduceAdd, Nat.reduceLeDiff, Nat.reduceLT, Nat.zero_lt_succ, Nat.add_one_pos,  String.reduceBEq, v_isiS, v_isiI, v_isiB, v_isiT, v_isiL, isiR_some, tyM, subT,
  e_var, getS_val, e_k, e_nil, e_cons, k_cons1, k_cons1x, k_cons2, k_cons2x, e_tup, k_tup, k_tupx, e_lst, k_lst, k_lstx, e_op, k_op1, k_op1x, k_op2, k_op2x, e_test, asB_ok, asB_x, noX_ok, e_chain, k_ch1, k_ch2, k_ch3t, k_ch3f, e_and, k_andt, k_andf, e_or, k_ort, k_orf, e_not, k_not, e_if, k_ift, k_iff,
  e_tand, k_tandt, k_tandf, e_tor, k_tort, k_torf, e_tnot, k_tnot, e_tru, k_tru, k_trux, onRef_lst, blR_t, truR_some, tru_bl, tru_int, tru_lst, tru_tup, e_cb, k_cb, k_cbx, e_on1, e_on2, e_call, k_call, k_callx, e_neg, k_neg, e_lm, k_lm, k_lm2, k_lm2x, e_sm, k_sm, e_pn, e_ps, k_ps, e_sl, k_sl1, k_sl2, k_sl3, e_rev, k_rev,
  e_errF, e_errIs, k_errF, k_errIs, opR_some, e_seq, seqS_nx, seqS_rt, seqS_bk, seqS_ct, seqS_exc, e_nx, e_bk, e_ct, e_drop, k_drop, k_dropx, e_ret, k_ret, k_retx, e_retN, e_ifS, k_ifSt, k_ifSf, k_ifSx, e_set, k_set, k_setx, e_asg, k_asg, k_asgx, k_asg2, e_par, k_par, e_gn, e_gs0, e_gs1, k_gs, e_gtp, e_sb, k_sb1, k_sb2,
  e_raise, k_raise, e_it, k_it, e_for, k_for, run_nil, run_cons, k_turn, k_turnN, k_turnC, k_turnB, k_turnR, k_turnX, src_str, src_tup, src_lst, src_scr, e_try, k_try, k_tryx, k_catch0, k_catchT, k_catchF, k_goneR,
  v_newT, v_newL, v_newR, v_addI, v_addL, v_addT, v_addRL, v_dif, v_eqS, v_eqI, v_neS, v_neI, v_inT, v_inL, v_niT, v_niL, v_isn, v_is, nonM, v_lenL, v_lenT, v_lenC, v_lenR, v_abs, v_intI, v_intB, v_max, v_min, v_listL, v_listT, v_listR, v_tupL, v_tupT, v_tupR, v_ltI, v_leI, v_gtI, v_geI, v_cutC, v_cutL, v_cutT, v_cutR, v_revL, v_app, v_inR, v_ixL, v_ixT, v_ixC, v_ixR,
  at_lit, at_last, ix_lit, v_mulN, v_mulM, v_mulL0, v_mulL1, Nat.zero_le, v_divN, v_powN, v_mod, sbO_some, v_sb, v_pop0, pop0_cons, Int.reduceLT, Int.reduceLE, Int.reducePow, Int.reduceNeg, Int.reduceAdd, Int.reduceSub, Int.reduceMul, h_last, h_set, fin_app, fin_self, setR_some, set_tup, set_lst, set_ref, setO_lst, Nat.lt_irrefl,
  flatM, inF_nil, inF_cons, eqF, List.all_cons, List.all_nil, List.any_cons, List.any_nil, str_beq, str_lit, String.reduceEq, decide_true, decide_false, decide_eq_true_eq, Bool.and_true, Bool.true_and, Bool.and_false, Bool.false_and, Bool.or_true, Bool.true_or, Bool.or_false, Bool.false_or, Bool.not_true, Bool.not_false, Bool.and_self, Bool.or_self,
  List.getElem?_cons_zero, List.getElem?_cons_succ, List.set_cons_zero, List.set_cons_succ, List.getElem?_nil, if_true, reduceIte, Bool.false_eq_true, belows, below, Nat.le_refl, reduceCtorEq, e_lc, k_lc, k_lc2, e_yes, l_nil, l_cons, k_l1, k_l2t, k_l2f, k_l3, e_r1, k_r1N, e_en, k_enL, k_enT, e_mkE, k_mkE, e_erF, k_erF, e_isE, wipeM]
  rfl
theorem turn_NoPlace (a b : MV) (s0 s1 s2 s3 s4 s5 s6 s7 s8 s9 s10 s13 s14 s15 s16 : Sl) (h : MH) : B_law_2 [s0, s1, s2, s3, s4, s5, s6, s7, s8, s9, s10, .val (.int 1), .val (.er "NoPlace" [("lst", a), ("place", b)]), s13, s14, s15, s16] h = .ok .nx [s0, s1, s2, s3, s4, s5, s6, s7, s8, s9, s10, .val (.int 1), .val (.er "NoPlace" [("lst", a), ("place", b)]), .val (.lst [.bl true, .bl true]), s14, s15, s16] h := by
  have hc := hot_ok 1 1 rfl s0 s1 s2 s3 s4 s5 s6 s7 s8 s9 s10 (.val (.er "NoPlace" [("lst", a), ("place", b)])) s13 s14 s15 s16 (h := h)
  rw [B_law_2_eq]
  simp only [↓hc, cls_NoPlace, ne_hot, ne_two, v_neB, Int.reduceLT, Int.reduceGT, k_isR, isR_t, in_NoRow, in_NoPlace, in_NoHandler, in_BadName, in_BadPlace, in_BadSlide, in_NoInverse, in_Twice, in_BadOperation, in_BadCall, in_BadVisit, in_BadLine, in_BadStep, in_BadText, in_BadWorld, in_BadNumber, in_BadSpot, in_BadBound, in_BadKind, in_OtherOperation, in_BadOrder, in_BadPair, in_BadRule, in_BadMend, in_TooMany, in_Clash, in_CallFailed, in_PlaceError, in_MissingError, kin_NoPlace, has_NoPlace, kx_NoPlace_LookupError, kx_NoPlace_ValueError, e_fun, finR_rt, finR_nx, finR_exc, fin_raw, finX_raw, List.map_cons, List.map_nil, List.replicate_succ, List.replicate_zero, List.cons_append, List.nil_append, List.append_nil, List.length_cons, List.length_nil, Nat.zero_add, Nat.reduceAdd, Nat.reduceLeDiff, Nat.reduceLT, Nat.zero_lt_succ, Nat.add_one_pos,  String.reduceBEq, v_isiS, v_isiI, v_isiB, v_isiT, v_isiL, isiR_some, tyM, subT,
  e_var, getS_val, e_k, e_nil, e_cons, k_cons1, k_cons1x, k_cons2, k_cons2x, e_tup, k_tup, k_tupx, e_lst, k_lst, k_lstx, e_op, k_op1, k_op1x, k_op2, k_op2x, e_test, asB_ok, asB_x, noX_ok, e_chain, k_ch1, k_ch2, k_ch3t, k_ch3f, e_and, k_andt, k_andf, e_or, k_ort, k_orf, e_not, k_not, e_if, k_ift, k_iff,
  e_tand, k_tandt, k_tandf, e_tor, k_tort, k_torf, e_tnot, k_tnot, e_tru, k_tru, k_trux, onRef_lst, blR_t, truR_some, tru_bl, tru_int, tru_lst, tru_tup, e_cb, k_cb, k_cbx, e_on1, e_on2, e_call, k_call, k_callx, e_neg, k_neg, e_lm, k_lm, k_lm2, k_lm2x, e_sm, k_sm, e_pn, e_ps, k_ps, e_sl, k_sl1, k_sl2, k_sl3, e_rev, k_rev,
  e_errF, e_errIs, k_errF, k_errIs, opR_some, e_seq, seqS_nx, seqS_rt, seqS_bk, seqS_ct, seqS_exc, e_nx, e_bk, e_ct, e_drop, k_drop, k_dropx, e_ret, k_ret, k_retx, e_retN, e_ifS, k_ifSt, k_ifSf, k_ifSx, e_set, k_set, k_setx, e_asg, k_asg, k_asgx, k_asg2, e_par, k_par, e_gn, e_gs0, e_gs1, k_gs, e_gtp, e_sb, k_sb1, k_sb2,
  e_raise, k_raise, e_it, k_it, e_for, k_for, run_nil, run_cons, k_turn, k_turnN, k_turnC, k_turnB, k_turnR, k_turnX, src_str, src_tup, src_lst, src_scr, e_try, k_try, k_tryx, k_catch0, k_catchT, k_catchF, k_goneR,
  v_newT, v_newL, v_newR, v_addI, v_addL, v_addT, v_addRL, v_dif, v_eqS, v_eqI, v_neS, v_neI, v_inT, v_inL, v_niT, v_niL, v_isn, v_is, nonM, v_lenL, v_lenT, v_lenC, v_lenR, v_abs, v_intI, v_intB, v_max, v_min, v_listL, v_listT, v_listR, v_tupL, v_tupT, v_tupR, v_ltI, v_leI, v_gtI, v_geI, v_cutC, v_cutL, v_cutT, v_cutR, v_revL, v_app, v_inR, v_ixL, v_ixT, v_ixC, v_ixR,
  at_lit, at_last, ix_lit, v_mulN, v_mulM, v_mulL0, v_mulL1, Nat.zero_le, v_divN, v_powN, v_mod, sbO_some, v_sb, v_pop0, pop0_cons, Int.reduceLT, Int.reduceLE, Int.reducePow, Int.reduceNeg, Int.reduceAdd, Int.reduceSub, Int.reduceMul, h_last, h_set, fin_app, fin_self, setR_some, set_tup, set_lst, set_ref, setO_lst, Nat.lt_irrefl,
  flatM, inF_nil, inF_cons, eqF, List.all_cons, List.all_nil, List.any_cons, List.any_nil, str_beq, str_lit, String.reduceEq, decide_true, decide_false, decide_eq_true_eq, Bool.and_true, Bool.true_and, Bool.and_false, Bool.false_and, Bool.or_true, Bool.true_or, Bool.or_false, Bool.false_or, Bool.not_true, Bool.not_false, Bool.and_self, Bool.or_self,
  List.getElem?_cons_zero, List.getElem?_cons_succ, List.set_cons_zero, List.set_cons_succ, List.getElem?_nil, if_true, reduceIte, Bool.false_eq_true, belows, below, Nat.le_refl, reduceCtorEq, e_lc, k_lc, k_lc2, e_yes, l_nil, l_cons, k_l1, k_l2t, k_l2f, k_l3, e_r1, k_r1N, e_en, k_enL, k_enT, e_mkE, k_mkE, e_erF, k_erF, e_isE, wipeM]
theorem cls_NoHandler (a : MV) (h : MH) : F__law_classes [(.er "NoHandler" [("name", a)])] h = .ok (.lst (hotM 2)) h := by
  unfold F__law_classes
  simp only [k_isR, isR_t, in_NoRow, in_NoPlace, in_NoHandler, in_BadName, in_BadPlace, in_BadSlide, in_NoInverse, in_Twice, in_BadOperation, in_BadCall, in_BadVisit, in_BadLine, in_BadStep, in_BadText, in_BadWorld, in_BadNumber, in_BadSpot, in_BadBound, in_BadKind, in_OtherOperation, in_BadOrder, in_BadPair, in_BadRule, in_BadMend, in_TooMany, in_Clash, in_CallFailed, in_PlaceError, in_MissingError, kin_NoHandler, has_NoHandler, kx_NoHandler_LookupError, kx_NoHandler_ValueError, e_fun, finR_rt, finR_nx, finR_exc, fin_raw, finX_raw, List.map_cons, List.map_nil, List.replicate_succ, List.replicate_zero, List.cons_append, List.nil_append, List.append_nil, List.length_cons, List.length_nil, Nat.zero_add, Nat.reduceAdd, Nat.reduceLeDiff, Nat.reduceLT, Nat.zero_lt_succ, Nat.add_one_pos,  String.reduceBEq, v_isiS, v_isiI, v_isiB, v_isiT, v_isiL, isiR_some, tyM, subT,
  e_var, getS_val, e_k, e_nil, e_cons, k_cons1, k_cons1x, k_cons2, k_cons2x, e_tup, k_tup, k_tupx, e_lst, k_lst, k_lstx, e_op, k_op1, k_op1x, k_op2, k_op2x, e_test, asB_ok, asB_x, noX_ok, e_chain, k_ch1, k_ch2, k_ch3t, k_ch3f, e_and, k_andt, k_andf, e_or, k_ort, k_orf, e_not, k_not, e_if, k_ift, k_iff,
  e_tand, k_tandt, k_tandf, e_tor, k_tort, k_torf, e_tnot, k_tnot, e_tru, k_tru, k_trux, onRef_lst, blR_t, truR_some, tru_bl, tru_int, tru_lst, tru_tup, e_cb, k_cb, k_cbx, e_on1, e_on2, e_call, k_call, k_callx, e_neg, k_neg, e_lm, k_lm, k_lm2, k_lm2x, e_sm, k_sm, e_pn, e_ps, k_ps, e_sl, k_sl1, k_sl2, k_sl3, e_rev, k_rev,
  e_errF, e_errIs, k_errF, k_errIs, opR_some, e_seq, seqS_nx, seqS_rt, seqS_bk, seqS_ct, seqS_exc, e_nx, e_bk, e_ct, e_drop, k_drop, k_dropx, e_ret, k_ret, k_retx, e_retN, e_ifS, k_ifSt, k_ifSf, k_ifSx, e_set, k_set, k_setx, e_asg, k_asg, k_asgx, k_asg2, e_par, k_par, e_gn, e_gs0, e_gs1, k_gs, e_gtp, e_sb, k_sb1, k_sb2,
  e_raise, k_raise, e_it, k_it, e_for, k_for, run_nil, run_cons, k_turn, k_turnN, k_turnC, k_turnB, k_turnR, k_turnX, src_str, src_tup, src_lst, src_scr, e_try, k_try, k_tryx, k_catch0, k_catchT, k_catchF, k_goneR,
  v_newT, v_newL, v_newR, v_addI, v_addL, v_addT, v_addRL, v_dif, v_eqS, v_eqI, v_neS, v_neI, v_inT, v_inL, v_niT, v_niL, v_isn, v_is, nonM, v_lenL, v_lenT, v_lenC, v_lenR, v_abs, v_intI, v_intB, v_max, v_min, v_listL, v_listT, v_listR, v_tupL, v_tupT, v_tupR, v_ltI, v_leI, v_gtI, v_geI, v_cutC, v_cutL, v_cutT, v_cutR, v_revL, v_app, v_inR, v_ixL, v_ixT, v_ixC, v_ixR,
  at_lit, at_last, ix_lit, v_mulN, v_mulM, v_mulL0, v_mulL1, Nat.zero_le, v_divN, v_powN, v_mod, sbO_some, v_sb, v_pop0, pop0_cons, Int.reduceLT, Int.reduceLE, Int.reducePow, Int.reduceNeg, Int.reduceAdd, Int.reduceSub, Int.reduceMul, h_last, h_set, fin_app, fin_self, setR_some, set_tup, set_lst, set_ref, setO_lst, Nat.lt_irrefl,
  flatM, inF_nil, inF_cons, eqF, List.all_cons, List.all_nil, List.any_cons, List.any_nil, str_beq, str_lit, String.reduceEq, decide_true, decide_false, decide_eq_true_eq, Bool.and_true, Bool.true_and, Bool.and_false, Bool.false_and, Bool.or_true, Bool.true_or, Bool.or_false, Bool.false_or, Bool.not_true, Bool.not_false, Bool.and_self, Bool.or_self,
  List.getElem?_cons_zero, List.getElem?_cons_succ, List.set_cons_zero, List.set_cons_succ, List.getElem?_nil, if_true, reduceIte, Bool.false_eq_true, belows, below, Nat.le_refl, reduceCtorEq, e_lc, k_lc, k_lc2, e_yes, l_nil, l_cons, k_l1, k_l2t, k_l2f, k_l3, e_r1, k_r1N, e_en, k_enL, k_enT, e_mkE, k_mkE, e_erF, k_erF, e_isE, wipeM]
  rfl
theorem turn_NoHandler (a : MV) (s0 s1 s2 s3 s4 s5 s6 s7 s8 s9 s10 s13 s14 s15 s16 : Sl) (h : MH) : B_law_2 [s0, s1, s2, s3, s4, s5, s6, s7, s8, s9, s10, .val (.int 2), .val (.er "NoHandler" [("name", a)]), s13, s14, s15, s16] h = .ok .nx [s0, s1, s2, s3, s4, s5, s6, s7, s8, s9, s10, .val (.int 2), .val (.er "NoHandler" [("name", a)]), .val (.lst [.bl true, .bl true]), s14, s15, s16] h := by
  have hc := hot_ok 2 2 rfl s0 s1 s2 s3 s4 s5 s6 s7 s8 s9 s10 (.val (.er "NoHandler" [("name", a)])) s13 s14 s15 s16 (h := h)
  rw [B_law_2_eq]
  simp only [↓hc, cls_NoHandler, ne_hot, ne_two, v_neB, Int.reduceLT, Int.reduceGT, k_isR, isR_t, in_NoRow, in_NoPlace, in_NoHandler, in_BadName, in_BadPlace, in_BadSlide, in_NoInverse, in_Twice, in_BadOperation, in_BadCall, in_BadVisit, in_BadLine, in_BadStep, in_BadText, in_BadWorld, in_BadNumber, in_BadSpot, in_BadBound, in_BadKind, in_OtherOperation, in_BadOrder, in_BadPair, in_BadRule, in_BadMend, in_TooMany, in_Clash, in_CallFailed, in_PlaceError, in_MissingError, kin_NoHandler, has_NoHandler, kx_NoHandler_LookupError, kx_NoHandler_ValueError, e_fun, finR_rt, finR_nx, finR_exc, fin_raw, finX_raw, List.map_cons, List.map_nil, List.replicate_succ, List.replicate_zero, List.cons_append, List.nil_append, List.append_nil, List.length_cons, List.length_nil, Nat.zero_add, Nat.reduceAdd, Nat.reduceLeDiff, Nat.reduceLT, Nat.zero_lt_succ, Nat.add_one_pos,  String.reduceBEq, v_isiS, v_isiI, v_isiB, v_isiT, v_isiL, isiR_some, tyM, subT,
  e_var, getS_val, e_k, e_nil, e_cons, k_cons1, k_cons1x, k_cons2, k_cons2x, e_tup, k_tup, k_tupx, e_lst, k_lst, k_lstx, e_op, k_op1, k_op1x, k_op2, k_op2x, e_test, asB_ok, asB_x, noX_ok, e_chain, k_ch1, k_ch2, k_ch3t, k_ch3f, e_and, k_andt, k_andf, e_or, k_ort, k_orf, e_not, k_not, e_if, k_ift, k_iff,
  e_tand, k_tandt, k_tandf, e_tor, k_tort, k_torf, e_tnot, k_tnot, e_tru, k_tru, k_trux, onRef_lst, blR_t, truR_some, tru_bl, tru_int, tru_lst, tru_tup, e_cb, k_cb, k_cbx, e_on1, e_on2, e_call, k_call, k_callx, e_neg, k_neg, e_lm, k_lm, k_lm2, k_lm2x, e_sm, k_sm, e_pn, e_ps, k_ps, e_sl, k_sl1, k_sl2, k_sl3, e_rev, k_rev,
  e_errF, e_errIs, k_errF, k_errIs, opR_some, e_seq, seqS_nx, seqS_rt, seqS_bk, seqS_ct, seqS_exc, e_nx, e_bk, e_ct, e_drop, k_drop, k_dropx, e_ret, k_ret, k_retx, e_retN, e_ifS, k_ifSt, k_ifSf, k_ifSx, e_set, k_set, k_setx, e_asg, k_asg, k_asgx, k_asg2, e_par, k_par, e_gn, e_gs0, e_gs1, k_gs, e_gtp, e_sb, k_sb1, k_sb2,
  e_raise, k_raise, e_it, k_it, e_for, k_for, run_nil, run_cons, k_turn, k_turnN, k_turnC, k_turnB, k_turnR, k_turnX, src_str, src_tup, src_lst, src_scr, e_try, k_try, k_tryx, k_catch0, k_catchT, k_catchF, k_goneR,
  v_newT, v_newL, v_newR, v_addI, v_addL, v_addT, v_addRL, v_dif, v_eqS, v_eqI, v_neS, v_neI, v_inT, v_inL, v_niT, v_niL, v_isn, v_is, nonM, v_lenL, v_lenT, v_lenC, v_lenR, v_abs, v_intI, v_intB, v_max, v_min, v_listL, v_listT, v_listR, v_tupL, v_tupT, v_tupR, v_ltI, v_leI, v_gtI, v_geI, v_cutC, v_cutL, v_cutT, v_cutR, v_revL, v_app, v_inR, v_ixL, v_ixT, v_ixC, v_ixR,
  at_lit, at_last, ix_lit, v_mulN, v_mulM, v_mulL0, v_mulL1, Nat.zero_le, v_divN, v_powN, v_mod, sbO_some, v_sb, v_pop0, pop0_cons, Int.reduceLT, Int.reduceLE, Int.reducePow, Int.reduceNeg, Int.reduceAdd, Int.reduceSub, Int.reduceMul, h_last, h_set, fin_app, fin_self, setR_some, set_tup, set_lst, set_ref, setO_lst, Nat.lt_irrefl,
  flatM, inF_nil, inF_cons, eqF, List.all_cons, List.all_nil, List.any_cons, List.any_nil, str_beq, str_lit, String.reduceEq, decide_true, decide_false, decide_eq_true_eq, Bool.and_true, Bool.true_and, Bool.and_false, Bool.false_and, Bool.or_true, Bool.true_or, Bool.or_false, Bool.false_or, Bool.not_true, Bool.not_false, Bool.and_self, Bool.or_self,
  List.getElem?_cons_zero, List.getElem?_cons_succ, List.set_cons_zero, List.set_cons_succ, List.getElem?_nil, if_true, reduceIte, Bool.false_eq_true, belows, below, Nat.le_refl, reduceCtorEq, e_lc, k_lc, k_lc2, e_yes, l_nil, l_cons, k_l1, k_l2t, k_l2f, k_l3, e_r1, k_r1N, e_en, k_enL, k_enT, e_mkE, k_mkE, e_erF, k_erF, e_isE, wipeM]
theorem cls_BadName (a : MV) (h : MH) : F__law_classes [(.er "BadName" [("name", a)])] h = .ok (.lst (hotM 3)) h := by
  unfold F__law_classes
  simp only [k_isR, isR_t, in_NoRow, in_NoPlace, in_NoHandler, in_BadName, in_BadPlace, in_BadSlide, in_NoInverse, in_Twice, in_BadOperation, in_BadCall, in_BadVisit, in_BadLine, in_BadStep, in_BadText, in_BadWorld, in_BadNumber, in_BadSpot, in_BadBound, in_BadKind, in_OtherOperation, in_BadOrder, in_BadPair, in_BadRule, in_BadMend, in_TooMany, in_Clash, in_CallFailed, in_PlaceError, in_MissingError, kin_BadName, has_BadName, kx_BadName_LookupError, kx_BadName_ValueError, e_fun, finR_rt, finR_nx, finR_exc, fin_raw, finX_raw, List.map_cons, List.map_nil, List.replicate_succ, List.replicate_zero, List.cons_append, List.nil_append, List.append_nil, List.length_cons, List.length_nil, Nat.zero_add, Nat.reduceAdd, Nat.reduceLeDiff, Nat.reduceLT, Nat.zero_lt_succ, Nat.add_one_pos,  String.reduceBEq, v_isiS, v_isiI, v_isiB, v_isiT, v_isiL, isiR_some, tyM, subT,
  e_var, getS_val, e_k, e_nil, e_cons, k_cons1, k_cons1x, k_cons2, k_cons2x, e_tup, k_tup, k_tupx, e_lst, k_lst, k_lstx, e_op, k_op1, k_op1x, k_op2, k_op2x, e_test, asB_ok, asB_x, noX_ok, e_chain, k_ch1, k_ch2, k_ch3t, k_ch3f, e_and, k_andt, k_andf, e_or, k_ort, k_orf, e_not, k_not, e_if, k_ift, k_iff,
  e_tand, k_tandt, k_tandf, e_tor, k_tort, k_torf, e_tnot, k_tnot, e_tru, k_tru, k_trux, onRef_lst, blR_t, truR_some, tru_bl, tru_int, tru_lst, tru_tup, e_cb, k_cb, k_cbx, e_on1, e_on2, e_call, k_call, k_callx, e_neg, k_neg, e_lm, k_lm, k_lm2, k_lm2x, e_sm, k_sm, e_pn, e_ps, k_ps, e_sl, k_sl1, k_sl2, k_sl3, e_rev, k_rev,
  e_errF, e_errIs, k_errF, k_errIs, opR_some, e_seq, seqS_nx, seqS_rt, seqS_bk, seqS_ct, seqS_exc, e_nx, e_bk, e_ct, e_drop, k_drop, k_dropx, e_ret, k_ret, k_retx, e_retN, e_ifS, k_ifSt, k_ifSf, k_ifSx, e_set, k_set, k_setx, e_asg, k_asg, k_asgx, k_asg2, e_par, k_par, e_gn, e_gs0, e_gs1, k_gs, e_gtp, e_sb, k_sb1, k_sb2,
  e_raise, k_raise, e_it, k_it, e_for, k_for, run_nil, run_cons, k_turn, k_turnN, k_turnC, k_turnB, k_turnR, k_turnX, src_str, src_tup, src_lst, src_scr, e_try, k_try, k_tryx, k_catch0, k_catchT, k_catchF, k_goneR,
  v_newT, v_newL, v_newR, v_addI, v_addL, v_addT, v_addRL, v_dif, v_eqS, v_eqI, v_neS, v_neI, v_inT, v_inL, v_niT, v_niL, v_isn, v_is, nonM, v_lenL, v_lenT, v_lenC, v_lenR, v_abs, v_intI, v_intB, v_max, v_min, v_listL, v_listT, v_listR, v_tupL, v_tupT, v_tupR, v_ltI, v_leI, v_gtI, v_geI, v_cutC, v_cutL, v_cutT, v_cutR, v_revL, v_app, v_inR, v_ixL, v_ixT, v_ixC, v_ixR,
  at_lit, at_last, ix_lit, v_mulN, v_mulM, v_mulL0, v_mulL1, Nat.zero_le, v_divN, v_powN, v_mod, sbO_some, v_sb, v_pop0, pop0_cons, Int.reduceLT, Int.reduceLE, Int.reducePow, Int.reduceNeg, Int.reduceAdd, Int.reduceSub, Int.reduceMul, h_last, h_set, fin_app, fin_self, setR_some, set_tup, set_lst, set_ref, setO_lst, Nat.lt_irrefl,
  flatM, inF_nil, inF_cons, eqF, List.all_cons, List.all_nil, List.any_cons, List.any_nil, str_beq, str_lit, String.reduceEq, decide_true, decide_false, decide_eq_true_eq, Bool.and_true, Bool.true_and, Bool.and_false, Bool.false_and, Bool.or_true, Bool.true_or, Bool.or_false, Bool.false_or, Bool.not_true, Bool.not_false, Bool.and_self, Bool.or_self,
  List.getElem?_cons_zero, List.getElem?_cons_succ, List.set_cons_zero, List.set_cons_succ, List.getElem?_nil, if_true, reduceIte, Bool.false_eq_true, belows, below, Nat.le_refl, reduceCtorEq, e_lc, k_lc, k_lc2, e_yes, l_nil, l_cons, k_l1, k_l2t, k_l2f, k_l3, e_r1, k_r1N, e_en, k_enL, k_enT, e_mkE, k_mkE, e_erF, k_erF, e_isE, wipeM]
  rfl
theorem turn_BadName (a : MV) (s0 s1 s2 s3 s4 s5 s6 s7 s8 s9 s10 s13 s14 s15 s16 : Sl) (h : MH) : B_law_2 [s0, s1, s2, s3, s4, s5, s6, s7, s8, s9, s10, .val (.int 3), .val (.er "BadName" [("name", a)]), s13, s14, s15, s16] h = .ok .nx [s0, s1, s2, s3, s4, s5, s6, s7, s8, s9, s10, .val (.int 3), .val (.er "BadName" [("name", a)]), .val (.lst [.bl false, .bl false]), s14, s15, s16] h := by
  have hc := hot_ok 3 3 rfl s0 s1 s2 s3 s4 s5 s6 s7 s8 s9 s10 (.val (.er "BadName" [("name", a)])) s13 s14 s15 s16 (h := h)
  rw [B_law_2_eq]
  simp only [↓hc, cls_BadName, ne_hot, ne_two, v_neB, Int.reduceLT, Int.reduceGT, k_isR, isR_t, in_NoRow, in_NoPlace, in_NoHandler, in_BadName, in_BadPlace, in_BadSlide, in_NoInverse, in_Twice, in_BadOperation, in_BadCall, in_BadVisit, in_BadLine, in_BadStep, in_BadText, in_BadWorld, in_BadNumber, in_BadSpot, in_BadBound, in_BadKind, in_OtherOperation, in_BadOrder, in_BadPair, in_BadRule, in_BadMend, in_TooMany, in_Clash, in_CallFailed, in_PlaceError, in_MissingError, kin_BadName, has_BadName, kx_BadName_LookupError, kx_BadName_ValueError, e_fun, finR_rt, finR_nx, finR_exc, fin_raw, finX_raw, List.map_cons, List.map_nil, List.replicate_succ, List.replicate_zero, List.cons_append, List.nil_append, List.append_nil, List.length_cons, List.length_nil, Nat.zero_add, Nat.reduceAdd, Nat.reduceLeDiff, Nat.reduceLT, Nat.zero_lt_succ, Nat.add_one_pos,  String.reduceBEq, v_isiS, v_isiI, v_isiB, v_isiT, v_isiL, isiR_some, tyM, subT,
  e_var, getS_val, e_k, e_nil, e_cons, k_cons1, k_cons1x, k_cons2, k_cons2x, e_tup, k_tup, k_tupx, e_lst, k_lst, k_lstx, e_op, k_op1, k_op1x, k_op2, k_op2x, e_test, asB_ok, asB_x, noX_ok, e_chain, k_ch1, k_ch2, k_ch3t, k_ch3f, e_and, k_andt, k_andf, e_or, k_ort, k_orf, e_not, k_not, e_if, k_ift, k_iff,
  e_tand, k_tandt, k_tandf, e_tor, k_tort, k_torf, e_tnot, k_tnot, e_tru, k_tru, k_trux, onRef_lst, blR_t, truR_some, tru_bl, tru_int, tru_lst, tru_tup, e_cb, k_cb, k_cbx, e_on1, e_on2, e_call, k_call, k_callx, e_neg, k_neg, e_lm, k_lm, k_lm2, k_lm2x, e_sm, k_sm, e_pn, e_ps, k_ps, e_sl, k_sl1, k_sl2, k_sl3, e_rev, k_rev,
  e_errF, e_errIs, k_errF, k_errIs, opR_some, e_seq, seqS_nx, seqS_rt, seqS_bk, seqS_ct, seqS_exc, e_nx, e_bk, e_ct, e_drop, k_drop, k_dropx, e_ret, k_ret, k_retx, e_retN, e_ifS, k_ifSt, k_ifSf, k_ifSx, e_set, k_set, k_setx, e_asg, k_asg, k_asgx, k_asg2, e_par, k_par, e_gn, e_gs0, e_gs1, k_gs, e_gtp, e_sb, k_sb1, k_sb2,
  e_raise, k_raise, e_it, k_it, e_for, k_for, run_nil, run_cons, k_turn, k_turnN, k_turnC, k_turnB, k_turnR, k_turnX, src_str, src_tup, src_lst, src_scr, e_try, k_try, k_tryx, k_catch0, k_catchT, k_catchF, k_goneR,
  v_newT, v_newL, v_newR, v_addI, v_addL, v_addT, v_addRL, v_dif, v_eqS, v_eqI, v_neS, v_neI, v_inT, v_inL, v_niT, v_niL, v_isn, v_is, nonM, v_lenL, v_lenT, v_lenC, v_lenR, v_abs, v_intI, v_intB, v_max, v_min, v_listL, v_listT, v_listR, v_tupL, v_tupT, v_tupR, v_ltI, v_leI, v_gtI, v_geI, v_cutC, v_cutL, v_cutT, v_cutR, v_revL, v_app, v_inR, v_ixL, v_ixT, v_ixC, v_ixR,
  at_lit, at_last, ix_lit, v_mulN, v_mulM, v_mulL0, v_mulL1, Nat.zero_le, v_divN, v_powN, v_mod, sbO_some, v_sb, v_pop0, pop0_cons, Int.reduceLT, Int.reduceLE, Int.reducePow, Int.reduceNeg, Int.reduceAdd, Int.reduceSub, Int.reduceMul, h_last, h_set, fin_app, fin_self, setR_some, set_tup, set_lst, set_ref, setO_lst, Nat.lt_irrefl,
  flatM, inF_nil, inF_cons, eqF, List.all_cons, List.all_nil, List.any_cons, List.any_nil, str_beq, str_lit, String.reduceEq, decide_true, decide_false, decide_eq_true_eq, Bool.and_true, Bool.true_and, Bool.and_false, Bool.false_and, Bool.or_true, Bool.true_or, Bool.or_false, Bool.false_or, Bool.not_true, Bool.not_false, Bool.and_self, Bool.or_self,
  List.getElem?_cons_zero, List.getElem?_cons_succ, List.set_cons_zero, List.set_cons_succ, List.getElem?_nil, if_true, reduceIte, Bool.false_eq_true, belows, below, Nat.le_refl, reduceCtorEq, e_lc, k_lc, k_lc2, e_yes, l_nil, l_cons, k_l1, k_l2t, k_l2f, k_l3, e_r1, k_r1N, e_en, k_enL, k_enT, e_mkE, k_mkE, e_erF, k_erF, e_isE, wipeM]
theorem cls_BadPlace (a : MV) (h : MH) : F__law_classes [(.er "BadPlace" [("place", a)])] h = .ok (.lst (hotM 4)) h := by
  unfold F__law_classes
  simp only [k_isR, isR_t, in_NoRow, in_NoPlace, in_NoHandler, in_BadName, in_BadPlace, in_BadSlide, in_NoInverse, in_Twice, in_BadOperation, in_BadCall, in_BadVisit, in_BadLine, in_BadStep, in_BadText, in_BadWorld, in_BadNumber, in_BadSpot, in_BadBound, in_BadKind, in_OtherOperation, in_BadOrder, in_BadPair, in_BadRule, in_BadMend, in_TooMany, in_Clash, in_CallFailed, in_PlaceError, in_MissingError, kin_BadPlace, has_BadPlace, kx_BadPlace_LookupError, kx_BadPlace_ValueError, e_fun, finR_rt, finR_nx, finR_exc, fin_raw, finX_raw, List.map_cons, List.map_nil, List.replicate_succ, List.replicate_zero, List.cons_append, List.nil_append, List.append_nil, List.length_cons, List.length_nil, Nat.zero_add, Nat.reduceAdd, Nat.reduceLeDiff, Nat.reduceLT, Nat.zero_lt_succ, Nat.add_one_pos,  String.reduceBEq, v_isiS, v_isiI, v_isiB, v_isiT, v_isiL, isiR_some, tyM, subT,
  e_var, getS_val, e_k, e_nil, e_cons, k_cons1, k_cons1x, k_cons2, k_cons2x, e_tup, k_tup, k_tupx, e_lst, k_lst, k_lstx, e_op, k_op1, k_op1x, k_op2, k_op2x, e_test, asB_ok, asB_x, noX_ok, e_chain, k_ch1, k_ch2, k_ch3t, k_ch3f, e_and, k_andt, k_andf, e_or, k_ort, k_orf, e_not, k_not, e_if, k_ift, k_iff,
  e_tand, k_tandt, k_tandf, e_tor, k_tort, k_torf, e_tnot, k_tnot, e_tru, k_tru, k_trux, onRef_lst, blR_t, truR_some, tru_bl, tru_int, tru_lst, tru_tup, e_cb, k_cb, k_cbx, e_on1, e_on2, e_call, k_call, k_callx, e_neg, k_neg, e_lm, k_lm, k_lm2, k_lm2x, e_sm, k_sm, e_pn, e_ps, k_ps, e_sl, k_sl1, k_sl2, k_sl3, e_rev, k_rev,
  e_errF, e_errIs, k_errF, k_errIs, opR_some, e_seq, seqS_nx, seqS_rt, seqS_bk, seqS_ct, seqS_exc, e_nx, e_bk, e_ct, e_drop, k_drop, k_dropx, e_ret, k_ret, k_retx, e_retN, e_ifS, k_ifSt, k_ifSf, k_ifSx, e_set, k_set, k_setx, e_asg, k_asg, k_asgx, k_asg2, e_par, k_par, e_gn, e_gs0, e_gs1, k_gs, e_gtp, e_sb, k_sb1, k_sb2,
  e_raise, k_raise, e_it, k_it, e_for, k_for, run_nil, run_cons, k_turn, k_turnN, k_turnC, k_turnB, k_turnR, k_turnX, src_str, src_tup, src_lst, src_scr, e_try, k_try, k_tryx, k_catch0, k_catchT, k_catchF, k_goneR,
  v_newT, v_newL, v_newR, v_addI, v_addL, v_addT, v_addRL, v_dif, v_eqS, v_eqI, v_neS, v_neI, v_inT, v_inL, v_niT, v_niL, v_isn, v_is, nonM, v_lenL, v_lenT, v_lenC, v_lenR, v_abs, v_intI, v_intB, v_max, v_min, v_listL, v_listT, v_listR, v_tupL, v_tupT, v_tupR, v_ltI, v_leI, v_gtI, v_geI, v_cutC, v_cutL, v_cutT, v_cutR, v_revL, v_app, v_inR, v_ixL, v_ixT, v_ixC, v_ixR,
  at_lit, at_last, ix_lit, v_mulN, v_mulM, v_mulL0, v_mulL1, Nat.zero_le, v_divN, v_powN, v_mod, sbO_some, v_sb, v_pop0, pop0_cons, Int.reduceLT, Int.reduceLE, Int.reducePow, Int.reduceNeg, Int.reduceAdd, Int.reduceSub, Int.reduceMul, h_last, h_set, fin_app, fin_self, setR_some, set_tup, set_lst, set_ref, setO_lst, Nat.lt_irrefl,
  flatM, inF_nil, inF_cons, eqF, List.all_cons, List.all_nil, List.any_cons, List.any_nil, str_beq, str_lit, String.reduceEq, decide_true, decide_false, decide_eq_true_eq, Bool.and_true, Bool.true_and, Bool.and_false, Bool.false_and, Bool.or_true, Bool.true_or, Bool.or_false, Bool.false_or, Bool.not_true, Bool.not_false, Bool.and_self, Bool.or_self,
  List.getElem?_cons_zero, List.getElem?_cons_succ, List.set_cons_zero, List.set_cons_succ, List.getElem?_nil, if_true, reduceIte, Bool.false_eq_true, belows, below, Nat.le_refl, reduceCtorEq, e_lc, k_lc, k_lc2, e_yes, l_nil, l_cons, k_l1, k_l2t, k_l2f, k_l3, e_r1, k_r1N, e_en, k_enL, k_enT, e_mkE, k_mkE, e_erF, k_erF, e_isE, wipeM]
  rfl
theorem turn_BadPlace (a : MV) (s0 s1 s2 s3 s4 s5 s6 s7 s8 s9 s10 s13 s14 s15 s16 : Sl) (h : MH) : B_law_2 [s0, s1, s2, s3, s4, s5, s6, s7, s8, s9, s10, .val (.int 4), .val (.er "BadPlace" [("place", a)]), s13, s14, s15, s16] h = .ok .nx [s0, s1, s2, s3, s4, s5, s6, s7, s8, s9, s10, .val (.int 4), .val (.er "BadPlace" [("place", a)]), .val (.lst [.bl false, .bl false]), s14, s15, s16] h := by
  have hc := hot_ok 4 4 rfl s0 s1 s2 s3 s4 s5 s6 s7 s8 s9 s10 (.val (.er "BadPlace" [("place", a)])) s13 s14 s15 s16 (h := h)
  rw [B_law_2_eq]
  simp only [↓hc, cls_BadPlace, ne_hot, ne_two, v_neB, Int.reduceLT, Int.reduceGT, k_isR, isR_t, in_NoRow, in_NoPlace, in_NoHandler, in_BadName, in_BadPlace, in_BadSlide, in_NoInverse, in_Twice, in_BadOperation, in_BadCall, in_BadVisit, in_BadLine, in_BadStep, in_BadText, in_BadWorld, in_BadNumber, in_BadSpot, in_BadBound, in_BadKind, in_OtherOperation, in_BadOrder, in_BadPair, in_BadRule, in_BadMend, in_TooMany, in_Clash, in_CallFailed, in_PlaceError, in_MissingError, kin_BadPlace, has_BadPlace, kx_BadPlace_LookupError, kx_BadPlace_ValueError, e_fun, finR_rt, finR_nx, finR_exc, fin_raw, finX_raw, List.map_cons, List.map_nil, List.replicate_succ, List.replicate_zero, List.cons_append, List.nil_append, List.append_nil, List.length_cons, List.length_nil, Nat.zero_add, Nat.reduceAdd, Nat.reduceLeDiff, Nat.reduceLT, Nat.zero_lt_succ, Nat.add_one_pos,  String.reduceBEq, v_isiS, v_isiI, v_isiB, v_isiT, v_isiL, isiR_some, tyM, subT,
  e_var, getS_val, e_k, e_nil, e_cons, k_cons1, k_cons1x, k_cons2, k_cons2x, e_tup, k_tup, k_tupx, e_lst, k_lst, k_lstx, e_op, k_op1, k_op1x, k_op2, k_op2x, e_test, asB_ok, asB_x, noX_ok, e_chain, k_ch1, k_ch2, k_ch3t, k_ch3f, e_and, k_andt, k_andf, e_or, k_ort, k_orf, e_not, k_not, e_if, k_ift, k_iff,
  e_tand, k_tandt, k_tandf, e_tor, k_tort, k_torf, e_tnot, k_tnot, e_tru, k_tru, k_trux, onRef_lst, blR_t, truR_some, tru_bl, tru_int, tru_lst, tru_tup, e_cb, k_cb, k_cbx, e_on1, e_on2, e_call, k_call, k_callx, e_neg, k_neg, e_lm, k_lm, k_lm2, k_lm2x, e_sm, k_sm, e_pn, e_ps, k_ps, e_sl, k_sl1, k_sl2, k_sl3, e_rev, k_rev,
  e_errF, e_errIs, k_errF, k_errIs, opR_some, e_seq, seqS_nx, seqS_rt, seqS_bk, seqS_ct, seqS_exc, e_nx, e_bk, e_ct, e_drop, k_drop, k_dropx, e_ret, k_ret, k_retx, e_retN, e_ifS, k_ifSt, k_ifSf, k_ifSx, e_set, k_set, k_setx, e_asg, k_asg, k_asgx, k_asg2, e_par, k_par, e_gn, e_gs0, e_gs1, k_gs, e_gtp, e_sb, k_sb1, k_sb2,
  e_raise, k_raise, e_it, k_it, e_for, k_for, run_nil, run_cons, k_turn, k_turnN, k_turnC, k_turnB, k_turnR, k_turnX, src_str, src_tup, src_lst, src_scr, e_try, k_try, k_tryx, k_catch0, k_catchT, k_catchF, k_goneR,
  v_newT, v_newL, v_newR, v_addI, v_addL, v_addT, v_addRL, v_dif, v_eqS, v_eqI, v_neS, v_neI, v_inT, v_inL, v_niT, v_niL, v_isn, v_is, nonM, v_lenL, v_lenT, v_lenC, v_lenR, v_abs, v_intI, v_intB, v_max, v_min, v_listL, v_listT, v_listR, v_tupL, v_tupT, v_tupR, v_ltI, v_leI, v_gtI, v_geI, v_cutC, v_cutL, v_cutT, v_cutR, v_revL, v_app, v_inR, v_ixL, v_ixT, v_ixC, v_ixR,
  at_lit, at_last, ix_lit, v_mulN, v_mulM, v_mulL0, v_mulL1, Nat.zero_le, v_divN, v_powN, v_mod, sbO_some, v_sb, v_pop0, pop0_cons, Int.reduceLT, Int.reduceLE, Int.reducePow, Int.reduceNeg, Int.reduceAdd, Int.reduceSub, Int.reduceMul, h_last, h_set, fin_app, fin_self, setR_some, set_tup, set_lst, set_ref, setO_lst, Nat.lt_irrefl,
  flatM, inF_nil, inF_cons, eqF, List.all_cons, List.all_nil, List.any_cons, List.any_nil, str_beq, str_lit, String.reduceEq, decide_true, decide_false, decide_eq_true_eq, Bool.and_true, Bool.true_and, Bool.and_false, Bool.false_and, Bool.or_true, Bool.true_or, Bool.or_false, Bool.false_or, Bool.not_true, Bool.not_false, Bool.and_self, Bool.or_self,
  List.getElem?_cons_zero, List.getElem?_cons_succ, List.set_cons_zero, List.set_cons_succ, List.getElem?_nil, if_true, reduceIte, Bool.false_eq_true, belows, below, Nat.le_refl, reduceCtorEq, e_lc, k_lc, k_lc2, e_yes, l_nil, l_cons, k_l1, k_l2t, k_l2f, k_l3, e_r1, k_r1N, e_en, k_enL, k_enT, e_mkE, k_mkE, e_erF, k_erF, e_isE, wipeM]
theorem cls_BadSlide (a : MV) (h : MH) : F__law_classes [(.er "BadSlide" [("index", a)])] h = .ok (.lst (hotM 5)) h := by
  unfold F__law_classes
  simp only [k_isR, isR_t, in_NoRow, in_NoPlace, in_NoHandler, in_BadName, in_BadPlace, in_BadSlide, in_NoInverse, in_Twice, in_BadOperation, in_BadCall, in_BadVisit, in_BadLine, in_BadStep, in_BadText, in_BadWorld, in_BadNumber, in_BadSpot, in_BadBound, in_BadKind, in_OtherOperation, in_BadOrder, in_BadPair, in_BadRule, in_BadMend, in_TooMany, in_Clash, in_CallFailed, in_PlaceError, in_MissingError, kin_BadSlide, has_BadSlide, kx_BadSlide_LookupError, kx_BadSlide_ValueError, e_fun, finR_rt, finR_nx, finR_exc, fin_raw, finX_raw, List.map_cons, List.map_nil, List.replicate_succ, List.replicate_zero, List.cons_append, List.nil_append, List.append_nil, List.length_cons, List.length_nil, Nat.zero_add, Nat.reduceAdd, Nat.reduceLeDiff, Nat.reduceLT, Nat.zero_lt_succ, Nat.add_one_pos,  String.reduceBEq, v_isiS, v_isiI, v_isiB, v_isiT, v_isiL, isiR_some, tyM, subT,
  e_var, getS_val, e_k, e_nil, e_cons, k_cons1, k_cons1x, k_cons2, k_cons2x, e_tup, k_tup, k_tupx, e_lst, k_lst, k_lstx, e_op, k_op1, k_op1x, k_op2, k_op2x, e_test, asB_ok, asB_x, noX_ok, e_chain, k_ch1, k_ch2, k_ch3t, k_ch3f, e_and, k_andt, k_andf, e_or, k_ort, k_orf, e_not, k_not, e_if, k_ift, k_iff,
  e_tand, k_tandt, k_tandf, e_tor, k_tort, k_torf, e_tnot, k_tnot, e_tru, k_tru, k_trux, onRef_lst, blR_t, truR_some, tru_bl, tru_int, tru_lst, tru_tup, e_cb, k_cb, k_cbx, e_on1, e_on2, e_call, k_call, k_callx, e_neg, k_neg, e_lm, k_lm, k_lm2, k_lm2x, e_sm, k_sm, e_pn, e_ps, k_ps, e_sl, k_sl1, k_sl2, k_sl3, e_rev, k_rev,
  e_errF, e_errIs, k_errF, k_errIs, opR_some, e_seq, seqS_nx, seqS_rt, seqS_bk, seqS_ct, seqS_exc, e_nx, e_bk, e_ct, e_drop, k_drop, k_dropx, e_ret, k_ret, k_retx, e_retN, e_ifS, k_ifSt, k_ifSf, k_ifSx, e_set, k_set, k_setx, e_asg, k_asg, k_asgx, k_asg2, e_par, k_par, e_gn, e_gs0, e_gs1, k_gs, e_gtp, e_sb, k_sb1, k_sb2,
  e_raise, k_raise, e_it, k_it, e_for, k_for, run_nil, run_cons, k_turn, k_turnN, k_turnC, k_turnB, k_turnR, k_turnX, src_str, src_tup, src_lst, src_scr, e_try, k_try, k_tryx, k_catch0, k_catchT, k_catchF, k_goneR,
  v_newT, v_newL, v_newR, v_addI, v_addL, v_addT, v_addRL, v_dif, v_eqS, v_eqI, v_neS, v_neI, v_inT, v_inL, v_niT, v_niL, v_isn, v_is, nonM, v_lenL, v_lenT, v_lenC, v_lenR, v_abs, v_intI, v_intB, v_max, v_min, v_listL, v_listT, v_listR, v_tupL, v_tupT, v_tupR, v_ltI, v_leI, v_gtI, v_geI, v_cutC, v_cutL, v_cutT, v_cutR, v_revL, v_app, v_inR, v_ixL, v_ixT, v_ixC, v_ixR,
  at_lit, at_last, ix_lit, v_mulN, v_mulM, v_mulL0, v_mulL1, Nat.zero_le, v_divN, v_powN, v_mod, sbO_some, v_sb, v_pop0, pop0_cons, Int.reduceLT, Int.reduceLE, Int.reducePow, Int.reduceNeg, Int.reduceAdd, Int.reduceSub, Int.reduceMul, h_last, h_set, fin_app, fin_self, setR_some, set_tup, set_lst, set_ref, setO_lst, Nat.lt_irrefl,
  flatM, inF_nil, inF_cons, eqF, List.all_cons, List.all_nil, List.any_cons, List.any_nil, str_beq, str_lit, String.reduceEq, decide_true, decide_false, decide_eq_true_eq, Bool.and_true, Bool.true_and, Bool.and_false, Bool.false_and, Bool.or_true, Bool.true_or, Bool.or_false, Bool.false_or, Bool.not_true, Bool.not_false, Bool.and_self, Bool.or_self,
  List.getElem?_cons_zero, List.getElem?_cons_succ, List.set_cons_zero, List.set_cons_succ, List.getElem?_nil, if_true, reduceIte, Bool.false_eq_true, belows, below, Nat.le_refl, reduceCtorEq, e_lc, k_lc, k_lc2, e_yes, l_nil, l_cons, k_l1, k_l2t, k_l2f, k_l3, e_r1, k_r1N, e_en, k_enL, k_enT, e_mkE, k_mkE, e_erF, k_erF, e_isE, wipeM]
  rfl
theorem turn_BadSlide (a : MV) (s0 s1 s2 s3 s4 s5 s6 s7 s8 s9 s10 s13 s14 s15 s16 : Sl) (h : MH) : B_law_2 [s0, s1, s2, s3, s4, s5, s6, s7, s8, s9, s10, .val (.int 5), .val (.er "BadSlide" [("index", a)]), s13, s14, s15, s16] h = .ok .nx [s0, s1, s2, s3, s4, s5, s6, s7, s8, s9, s10, .val (.int 5), .val (.er "BadSlide" [("index", a)]), .val (.lst [.bl false, .bl false]), s14, s15, s16] h := by
  have hc := hot_ok 5 5 rfl s0 s1 s2 s3 s4 s5 s6 s7 s8 s9 s10 (.val (.er "BadSlide" [("index", a)])) s13 s14 s15 s16 (h := h)
  rw [B_law_2_eq]
  simp only [↓hc, cls_BadSlide, ne_hot, ne_two, v_neB, Int.reduceLT, Int.reduceGT, k_isR, isR_t, in_NoRow, in_NoPlace, in_NoHandler, in_BadName, in_BadPlace, in_BadSlide, in_NoInverse, in_Twice, in_BadOperation, in_BadCall, in_BadVisit, in_BadLine, in_BadStep, in_BadText, in_BadWorld, in_BadNumber, in_BadSpot, in_BadBound, in_BadKind, in_OtherOperation, in_BadOrder, in_BadPair, in_BadRule, in_BadMend, in_TooMany, in_Clash, in_CallFailed, in_PlaceError, in_MissingError, kin_BadSlide, has_BadSlide, kx_BadSlide_LookupError, kx_BadSlide_ValueError, e_fun, finR_rt, finR_nx, finR_exc, fin_raw, finX_raw, List.map_cons, List.map_nil, List.replicate_succ, List.replicate_zero, List.cons_append, List.nil_append, List.append_nil, List.length_cons, List.length_nil, Nat.zero_add, Nat.reduceAdd, Nat.reduceLeDiff, Nat.reduceLT, Nat.zero_lt_succ, Nat.add_one_pos,  String.reduceBEq, v_isiS, v_isiI, v_isiB, v_isiT, v_isiL, isiR_some, tyM, subT,
  e_var, getS_val, e_k, e_nil, e_cons, k_cons1, k_cons1x, k_cons2, k_cons2x, e_tup, k_tup, k_tupx, e_lst, k_lst, k_lstx, e_op, k_op1, k_op1x, k_op2, k_op2x, e_test, asB_ok, asB_x, noX_ok, e_chain, k_ch1, k_ch2, k_ch3t, k_ch3f, e_and, k_andt, k_andf, e_or, k_ort, k_orf, e_not, k_not, e_if, k_ift, k_iff,
  e_tand, k_tandt, k_tandf, e_tor, k_tort, k_torf, e_tnot, k_tnot, e_tru, k_tru, k_trux, onRef_lst, blR_t, truR_some, tru_bl, tru_int, tru_lst, tru_tup, e_cb, k_cb, k_cbx, e_on1, e_on2, e_call, k_call, k_callx, e_neg, k_neg, e_lm, k_lm, k_lm2, k_lm2x, e_sm, k_sm, e_pn, e_ps, k_ps, e_sl, k_sl1, k_sl2, k_sl3, e_rev, k_rev,
  e_errF, e_errIs, k_errF, k_errIs, opR_some, e_seq, seqS_nx, seqS_rt, seqS_bk, seqS_ct, seqS_exc, e_nx, e_bk, e_ct, e_drop, k_drop, k_dropx, e_ret, k_ret, k_retx, e_retN, e_ifS, k_ifSt, k_ifSf, k_ifSx, e_set, k_set, k_setx, e_asg, k_asg, k_asgx, k_asg2, e_par, k_par, e_gn, e_gs0, e_gs1, k_gs, e_gtp, e_sb, k_sb1, k_sb2,
  e_raise, k_raise, e_it, k_it, e_for, k_for, run_nil, run_cons, k_turn, k_turnN, k_turnC, k_turnB, k_turnR, k_turnX, src_str, src_tup, src_lst, src_scr, e_try, k_try, k_tryx, k_catch0, k_catchT, k_catchF, k_goneR,
  v_newT, v_newL, v_newR, v_addI, v_addL, v_addT, v_addRL, v_dif, v_eqS, v_eqI, v_neS, v_neI, v_inT, v_inL, v_niT, v_niL, v_isn, v_is, nonM, v_lenL, v_lenT, v_lenC, v_lenR, v_abs, v_intI, v_intB, v_max, v_min, v_listL, v_listT, v_listR, v_tupL, v_tupT, v_tupR, v_ltI, v_leI, v_gtI, v_geI, v_cutC, v_cutL, v_cutT, v_cutR, v_revL, v_app, v_inR, v_ixL, v_ixT, v_ixC, v_ixR,
  at_lit, at_last, ix_lit, v_mulN, v_mulM, v_mulL0, v_mulL1, Nat.zero_le, v_divN, v_powN, v_mod, sbO_some, v_sb, v_pop0, pop0_cons, Int.reduceLT, Int.reduceLE, Int.reducePow, Int.reduceNeg, Int.reduceAdd, Int.reduceSub, Int.reduceMul, h_last, h_set, fin_app, fin_self, setR_some, set_tup, set_lst, set_ref, setO_lst, Nat.lt_irrefl,
  flatM, inF_nil, inF_cons, eqF, List.all_cons, List.all_nil, List.any_cons, List.any_nil, str_beq, str_lit, String.reduceEq, decide_true, decide_false, decide_eq_true_eq, Bool.and_true, Bool.true_and, Bool.and_false, Bool.false_and, Bool.or_true, Bool.true_or, Bool.or_false, Bool.false_or, Bool.not_true, Bool.not_false, Bool.and_self, Bool.or_self,
  List.getElem?_cons_zero, List.getElem?_cons_succ, List.set_cons_zero, List.set_cons_succ, List.getElem?_nil, if_true, reduceIte, Bool.false_eq_true, belows, below, Nat.le_refl, reduceCtorEq, e_lc, k_lc, k_lc2, e_yes, l_nil, l_cons, k_l1, k_l2t, k_l2f, k_l3, e_r1, k_r1N, e_en, k_enL, k_enT, e_mkE, k_mkE, e_erF, k_erF, e_isE, wipeM]
theorem cls_NoInverse (a : MV) (h : MH) : F__law_classes [(.er "NoInverse" [("slide", a)])] h = .ok (.lst (hotM 6)) h := by
  unfold F__law_classes
  simp only [k_isR, isR_t, in_NoRow, in_NoPlace, in_NoHandler, in_BadName, in_BadPlace, in_BadSlide, in_NoInverse, in_Twice, in_BadOperation, in_BadCall, in_BadVisit, in_BadLine, in_BadStep, in_BadText, in_BadWorld, in_BadNumber, in_BadSpot, in_BadBound, in_BadKind, in_OtherOperation, in_BadOrder, in_BadPair, in_BadRule, in_BadMend, in_TooMany, in_Clash, in_CallFailed, in_PlaceError, in_MissingError, kin_NoInverse, has_NoInverse, kx_NoInverse_LookupError, kx_NoInverse_ValueError, e_fun, finR_rt, finR_nx, finR_exc, fin_raw, finX_raw, List.map_cons, List.map_nil, List.replicate_succ, List.replicate_zero, List.cons_append, List.nil_append, List.append_nil, List.length_cons, List.length_nil, Nat.zero_add, Nat.reduceAdd, Nat.reduceLeDiff, Nat.reduceLT, Nat.zero_lt_succ, Nat.add_one_pos,  String.reduceBEq, v_isiS, v_isiI, v_isiB, v_isiT, v_isiL, isiR_some, tyM, subT,
  e_var, getS_val, e_k, e_nil, e_cons, k_cons1, k_cons1x, k_cons2, k_cons2x, e_tup, k_tup, k_tupx, e_lst, k_lst, k_lstx, e_op, k_op1, k_op1x, k_op2, k_op2x, e_test, asB_ok, asB_x, noX_ok, e_chain, k_ch1, k_ch2, k_ch3t, k_ch3f, e_and, k_andt, k_andf, e_or, k_ort, k_orf, e_not, k_not, e_if, k_ift, k_iff,
  e_tand, k_tandt, k_tandf, e_tor, k_tort, k_torf, e_tnot, k_tnot, e_tru, k_tru, k_trux, onRef_lst, blR_t, truR_some, tru_bl, tru_int, tru_lst, tru_tup, e_cb, k_cb, k_cbx, e_on1, e_on2, e_call, k_call, k_callx, e_neg, k_neg, e_lm, k_lm, k_lm2, k_lm2x, e_sm, k_sm, e_pn, e_ps, k_ps, e_sl, k_sl1, k_sl2, k_sl3, e_rev, k_rev,
  e_errF, e_errIs, k_errF, k_errIs, opR_some, e_seq, seqS_nx, seqS_rt, seqS_bk, seqS_ct, seqS_exc, e_nx, e_bk, e_ct, e_drop, k_drop, k_dropx, e_ret, k_ret, k_retx, e_retN, e_ifS, k_ifSt, k_ifSf, k_ifSx, e_set, k_set, k_setx, e_asg, k_asg, k_asgx, k_asg2, e_par, k_par, e_gn, e_gs0, e_gs1, k_gs, e_gtp, e_sb, k_sb1, k_sb2,
  e_raise, k_raise, e_it, k_it, e_for, k_for, run_nil, run_cons, k_turn, k_turnN, k_turnC, k_turnB, k_turnR, k_turnX, src_str, src_tup, src_lst, src_scr, e_try, k_try, k_tryx, k_catch0, k_catchT, k_catchF, k_goneR,
  v_newT, v_newL, v_newR, v_addI, v_addL, v_addT, v_addRL, v_dif, v_eqS, v_eqI, v_neS, v_neI, v_inT, v_inL, v_niT, v_niL, v_isn, v_is, nonM, v_lenL, v_lenT, v_lenC, v_lenR, v_abs, v_intI, v_intB, v_max, v_min, v_listL, v_listT, v_listR, v_tupL, v_tupT, v_tupR, v_ltI, v_leI, v_gtI, v_geI, v_cutC, v_cutL, v_cutT, v_cutR, v_revL, v_app, v_inR, v_ixL, v_ixT, v_ixC, v_ixR,
  at_lit, at_last, ix_lit, v_mulN, v_mulM, v_mulL0, v_mulL1, Nat.zero_le, v_divN, v_powN, v_mod, sbO_some, v_sb, v_pop0, pop0_cons, Int.reduceLT, Int.reduceLE, Int.reducePow, Int.reduceNeg, Int.reduceAdd, Int.reduceSub, Int.reduceMul, h_last, h_set, fin_app, fin_self, setR_some, set_tup, set_lst, set_ref, setO_lst, Nat.lt_irrefl,
  flatM, inF_nil, inF_cons, eqF, List.all_cons, List.all_nil, List.any_cons, List.any_nil, str_beq, str_lit, String.reduceEq, decide_true, decide_false, decide_eq_true_eq, Bool.and_true, Bool.true_and, Bool.and_false, Bool.false_and, Bool.or_true, Bool.true_or, Bool.or_false, Bool.false_or, Bool.not_true, Bool.not_false, Bool.and_self, Bool.or_self,
  List.getElem?_cons_zero, List.getElem?_cons_succ, List.set_cons_zero, List.set_cons_succ, List.getElem?_nil, if_true, reduceIte, Bool.false_eq_true, belows, below, Nat.le_refl, reduceCtorEq, e_lc, k_lc, k_lc2, e_yes, l_nil, l_cons, k_l1, k_l2t, k_l2f, k_l3, e_r1, k_r1N, e_en, k_enL, k_enT, e_mkE, k_mkE, e_erF, k_erF, e_isE, wipeM]
  rfl
theorem turn_NoInverse (a : MV) (s0 s1 s2 s3 s4 s5 s6 s7 s8 s9 s10 s13 s14 s15 s16 : Sl) (h : MH) : B_law_2 [s0, s1, s2, s3, s4, s5, s6, s7, s8, s9, s10, .val (.int 6), .val (.er "NoInverse" [("slide", a)]), s13, s14, s15, s16] h = .ok .nx [s0, s1, s2, s3, s4, s5, s6, s7, s8, s9, s10, .val (.int 6), .val (.er "NoInverse" [("slide", a)]), .val (.lst [.bl false, .bl false]), s14, s15, s16] h := by
  have hc := hot_ok 6 6 rfl s0 s1 s2 s3 s4 s5 s6 s7 s8 s9 s10 (.val (.er "NoInverse" [("slide", a)])) s13 s14 s15 s16 (h := h)
  rw [B_law_2_eq]
  simp only [↓hc, cls_NoInverse, ne_hot, ne_two, v_neB, Int.reduceLT, Int.reduceGT, k_isR, isR_t, in_NoRow, in_NoPlace, in_NoHandler, in_BadName, in_BadPlace, in_BadSlide, in_NoInverse, in_Twice, in_BadOperation, in_BadCall, in_BadVisit, in_BadLine, in_BadStep, in_BadText, in_BadWorld, in_BadNumber, in_BadSpot, in_BadBound, in_BadKind, in_OtherOperation, in_BadOrder, in_BadPair, in_BadRule, in_BadMend, in_TooMany, in_Clash, in_CallFailed, in_PlaceError, in_MissingError, kin_NoInverse, has_NoInverse, kx_NoInverse_LookupError, kx_NoInverse_ValueError, e_fun, finR_rt, finR_nx, finR_exc, fin_raw, finX_raw, List.map_cons, List.map_nil, List.replicate_succ, List.replicate_zero, List.cons_append, List.nil_append, List.append_nil, List.length_cons, List.length_nil, Nat.zero_add, Nat.reduceAdd, Nat.reduceLeDiff, Nat.reduceLT, Nat.zero_lt_succ, Nat.add_one_pos,  String.reduceBEq, v_isiS, v_isiI, v_isiB, v_isiT, v_isiL, isiR_some, tyM, subT,
  e_var, getS_val, e_k, e_nil, e_cons, k_cons1, k_cons1x, k_cons2, k_cons2x, e_tup, k_tup, k_tupx, e_lst, k_lst, k_lstx, e_op, k_op1, k_op1x, k_op2, k_op2x, e_test, asB_ok, asB_x, noX_ok, e_chain, k_ch1, k_ch2, k_ch3t, k_ch3f, e_and, k_andt, k_andf, e_or, k_ort, k_orf, e_not, k_not, e_if, k_ift, k_iff,
  e_tand, k_tandt, k_tandf, e_tor, k_tort, k_torf, e_tnot, k_tnot, e_tru, k_tru, k_trux, onRef_lst, blR_t, truR_some, tru_bl, tru_int, tru_lst, tru_tup, e_cb, k_cb, k_cbx, e_on1, e_on2, e_call, k_call, k_callx, e_neg, k_neg, e_lm, k_lm, k_lm2, k_lm2x, e_sm, k_sm, e_pn, e_ps, k_ps, e_sl, k_sl1, k_sl2, k_sl3, e_rev, k_rev,
  e_errF, e_errIs, k_errF, k_errIs, opR_some, e_seq, seqS_nx, seqS_rt, seqS_bk, seqS_ct, seqS_exc, e_nx, e_bk, e_ct, e_drop, k_drop, k_dropx, e_ret, k_ret, k_retx, e_retN, e_ifS, k_ifSt, k_ifSf, k_ifSx, e_set, k_set, k_setx, e_asg, k_asg, k_asgx, k_asg2, e_par, k_par, e_gn, e_gs0, e_gs1, k_gs, e_gtp, e_sb, k_sb1, k_sb2,
  e_raise, k_raise, e_it, k_it, e_for, k_for, run_nil, run_cons, k_turn, k_turnN, k_turnC, k_turnB, k_turnR, k_turnX, src_str, src_tup, src_lst, src_scr, e_try, k_try, k_tryx, k_catch0, k_catchT, k_catchF, k_goneR,
  v_newT, v_newL, v_newR, v_addI, v_addL, v_addT, v_addRL, v_dif, v_eqS, v_eqI, v_neS, v_neI, v_inT, v_inL, v_niT, v_niL, v_isn, v_is, nonM, v_lenL, v_lenT, v_lenC, v_lenR, v_abs, v_intI, v_intB, v_max, v_min, v_listL, v_listT, v_listR, v_tupL, v_tupT, v_tupR, v_ltI, v_leI, v_gtI, v_geI, v_cutC, v_cutL, v_cutT, v_cutR, v_revL, v_app, v_inR, v_ixL, v_ixT, v_ixC, v_ixR,
  at_lit, at_last, ix_lit, v_mulN, v_mulM, v_mulL0, v_mulL1, Nat.zero_le, v_divN, v_powN, v_mod, sbO_some, v_sb, v_pop0, pop0_cons, Int.reduceLT, Int.reduceLE, Int.reducePow, Int.reduceNeg, Int.reduceAdd, Int.reduceSub, Int.reduceMul, h_last, h_set, fin_app, fin_self, setR_some, set_tup, set_lst, set_ref, setO_lst, Nat.lt_irrefl,
  flatM, inF_nil, inF_cons, eqF, List.all_cons, List.all_nil, List.any_cons, List.any_nil, str_beq, str_lit, String.reduceEq, decide_true, decide_false, decide_eq_true_eq, Bool.and_true, Bool.true_and, Bool.and_false, Bool.false_and, Bool.or_true, Bool.true_or, Bool.or_false, Bool.false_or, Bool.not_true, Bool.not_false, Bool.and_self, Bool.or_self,
  List.getElem?_cons_zero, List.getElem?_cons_succ, List.set_cons_zero, List.set_cons_succ, List.getElem?_nil, if_true, reduceIte, Bool.false_eq_true, belows, below, Nat.le_refl, reduceCtorEq, e_lc, k_lc, k_lc2, e_yes, l_nil, l_cons, k_l1, k_l2t, k_l2f, k_l3, e_r1, k_r1N, e_en, k_enL, k_enT, e_mkE, k_mkE, e_erF, k_erF, e_isE, wipeM]
theorem cls_Twice (a : MV) (h : MH) : F__law_classes [(.er "Twice" [("row", a)])] h = .ok (.lst (hotM 7)) h := by
  unfold F__law_classes
  simp only [k_isR, isR_t, in_NoRow, in_NoPlace, in_NoHandler, in_BadName, in_BadPlace, in_BadSlide, in_NoInverse, in_Twice, in_BadOperation, in_BadCall, in_BadVisit, in_BadLine, in_BadStep, in_BadText, in_BadWorld, in_BadNumber, in_BadSpot, in_BadBound, in_BadKind, in_OtherOperation, in_BadOrder, in_BadPair, in_BadRule, in_BadMend, in_TooMany, in_Clash, in_CallFailed, in_PlaceError, in_MissingError, kin_Twice, has_Twice, kx_Twice_LookupError, kx_Twice_ValueError, e_fun, finR_rt, finR_nx, finR_exc, fin_raw, finX_raw, List.map_cons, List.map_nil, List.replicate_succ, List.replicate_zero, List.cons_append, List.nil_append, List.append_nil, List.length_cons, List.length_nil, Nat.zero_add, Nat.reduceAdd, Nat.reduceLeDiff, Nat.reduceLT, Nat.zero_lt_succ, Nat.add_one_pos,  String.reduceBEq, v_isiS, v_isiI, v_isiB, v_isiT, v_isiL, isiR_some, tyM, subT,
  e_var, getS_val, e_k, e_nil, e_cons, k_cons1, k_cons1x, k_cons2, k_cons2x, e_tup, k_tup, k_tupx, e_lst, k_lst, k_lstx, e_op, k_op1, k_op1x, k_op2, k_op2x, e_test, asB_ok, asB_x, noX_ok, e_chain, k_ch1, k_ch2, k_ch3t, k_ch3f, e_and, k_andt, k_andf, e_or, k_ort, k_orf, e_not, k_not, e_if, k_ift, k_iff,
  e_tand, k_tandt, k_tandf, e_tor, k_tort, k_torf, e_tnot, k_tnot, e_tru, k_tru, k_trux, onRef_lst, blR_t, truR_some, tru_bl, tru_int, tru_lst, tru_tup, e_cb, k_cb, k_cbx, e_on1, e_on2, e_call, k_call, k_callx, e_neg, k_neg, e_lm, k_lm, k_lm2, k_lm2x, e_sm, k_sm, e_pn, e_ps, k_ps, e_sl, k_sl1, k_sl2, k_sl3, e_rev, k_rev,
  e_errF, e_errIs, k_errF, k_errIs, opR_some, e_seq, seqS_nx, seqS_rt, seqS_bk, seqS_ct, seqS_exc, e_nx, e_bk, e_ct, e_drop, k_drop, k_dropx, e_ret, k_ret, k_retx, e_retN, e_ifS, k_ifSt, k_ifSf, k_ifSx, e_set, k_set, k_setx, e_asg, k_asg, k_asgx, k_asg2, e_par, k_par, e_gn, e_gs0, e_gs1, k_gs, e_gtp, e_sb, k_sb1, k_sb2,
  e_raise, k_raise, e_it, k_it, e_for, k_for, run_nil, run_cons, k_turn, k_turnN, k_turnC, k_turnB, k_turnR, k_turnX, src_str, src_tup, src_lst, src_scr, e_try, k_try, k_tryx, k_catch0, k_catchT, k_catchF, k_goneR,
  v_newT, v_newL, v_newR, v_addI, v_addL, v_addT, v_addRL, v_dif, v_eqS, v_eqI, v_neS, v_neI, v_inT, v_inL, v_niT, v_niL, v_isn, v_is, nonM, v_lenL, v_lenT, v_lenC, v_lenR, v_abs, v_intI, v_intB, v_max, v_min, v_listL, v_listT, v_listR, v_tupL, v_tupT, v_tupR, v_ltI, v_leI, v_gtI, v_geI, v_cutC, v_cutL, v_cutT, v_cutR, v_revL, v_app, v_inR, v_ixL, v_ixT, v_ixC, v_ixR,
  at_lit, at_last, ix_lit, v_mulN, v_mulM, v_mulL0, v_mulL1, Nat.zero_le, v_divN, v_powN, v_mod, sbO_some, v_sb, v_pop0, pop0_cons, Int.reduceLT, Int.reduceLE, Int.reducePow, Int.reduceNeg, Int.reduceAdd, Int.reduceSub, Int.reduceMul, h_last, h_set, fin_app, fin_self, setR_some, set_tup, set_lst, set_ref, setO_lst, Nat.lt_irrefl,
  flatM, inF_nil, inF_cons, eqF, List.all_cons, List.all_nil, List.any_cons, List.any_nil, str_beq, str_lit, String.reduceEq, decide_true, decide_false, decide_eq_true_eq, Bool.and_true, Bool.true_and, Bool.and_false, Bool.false_and, Bool.or_true, Bool.true_or, Bool.or_false, Bool.false_or, Bool.not_true, Bool.not_false, Bool.and_self, Bool.or_self,
  List.getElem?_cons_zero, List.getElem?_cons_succ, List.set_cons_zero, List.set_cons_succ, List.getElem?_nil, if_true, reduceIte, Bool.false_eq_true, belows, below, Nat.le_refl, reduceCtorEq, e_lc, k_lc, k_lc2, e_yes, l_nil, l_cons, k_l1, k_l2t, k_l2f, k_l3, e_r1, k_r1N, e_en, k_enL, k_enT, e_mkE, k_mkE, e_erF, k_erF, e_isE, wipeM]
  rfl
theorem turn_Twice (a : MV) (s0 s1 s2 s3 s4 s5 s6 s7 s8 s9 s10 s13 s14 s15 s16 : Sl) (h : MH) : B_law_2 [s0, s1, s2, s3, s4, s5, s6, s7, s8, s9, s10, .val (.int 7), .val (.er "Twice" [("row", a)]), s13, s14, s15, s16] h = .ok .nx [s0, s1, s2, s3, s4, s5, s6, s7, s8, s9, s10, .val (.int 7), .val (.er "Twice" [("row", a)]), .val (.lst [.bl false, .bl false]), s14, s15, s16] h := by
  have hc := hot_ok 7 7 rfl s0 s1 s2 s3 s4 s5 s6 s7 s8 s9 s10 (.val (.er "Twice" [("row", a)])) s13 s14 s15 s16 (h := h)
  rw [B_law_2_eq]
  simp only [↓hc, cls_Twice, ne_hot, ne_two, v_neB, Int.reduceLT, Int.reduceGT, k_isR, isR_t, in_NoRow, in_NoPlace, in_NoHandler, in_BadName, in_BadPlace, in_BadSlide, in_NoInverse, in_Twice, in_BadOperation, in_BadCall, in_BadVisit, in_BadLine, in_BadStep, in_BadText, in_BadWorld, in_BadNumber, in_BadSpot, in_BadBound, in_BadKind, in_OtherOperation, in_BadOrder, in_BadPair, in_BadRule, in_BadMend, in_TooMany, in_Clash, in_CallFailed, in_PlaceError, in_MissingError, kin_Twice, has_Twice, kx_Twice_LookupError, kx_Twice_ValueError, e_fun, finR_rt, finR_nx, finR_exc, fin_raw, finX_raw, List.map_cons, List.map_nil, List.replicate_succ, List.replicate_zero, List.cons_append, List.nil_append, List.append_nil, List.length_cons, List.length_nil, Nat.zero_add, Nat.reduceAdd, Nat.reduceLeDiff, Nat.reduceLT, Nat.zero_lt_succ, Nat.add_one_pos,  String.reduceBEq, v_isiS, v_isiI, v_isiB, v_isiT, v_isiL, isiR_some, tyM, subT,
  e_var, getS_val, e_k, e_nil, e_cons, k_cons1, k_cons1x, k_cons2, k_cons2x, e_tup, k_tup, k_tupx, e_lst, k_lst, k_lstx, e_op, k_op1, k_op1x, k_op2, k_op2x, e_test, asB_ok, asB_x, noX_ok, e_chain, k_ch1, k_ch2, k_ch3t, k_ch3f, e_and, k_andt, k_andf, e_or, k_ort, k_orf, e_not, k_not, e_if, k_ift, k_iff,
  e_tand, k_tandt, k_tandf, e_tor, k_tort, k_torf, e_tnot, k_tnot, e_tru, k_tru, k_trux, onRef_lst, blR_t, truR_some, tru_bl, tru_int, tru_lst, tru_tup, e_cb, k_cb, k_cbx, e_on1, e_on2, e_call, k_call, k_callx, e_neg, k_neg, e_lm, k_lm, k_lm2, k_lm2x, e_sm, k_sm, e_pn, e_ps, k_ps, e_sl, k_sl1, k_sl2, k_sl3, e_rev, k_rev,
  e_errF, e_errIs, k_errF, k_errIs, opR_some, e_seq, seqS_nx, seqS_rt, seqS_bk, seqS_ct, seqS_exc, e_nx, e_bk, e_ct, e_drop, k_drop, k_dropx, e_ret, k_ret, k_retx, e_retN, e_ifS, k_ifSt, k_ifSf, k_ifSx, e_set, k_set, k_setx, e_asg, k_asg, k_asgx, k_asg2, e_par, k_par, e_gn, e_gs0, e_gs1, k_gs, e_gtp, e_sb, k_sb1, k_sb2,
  e_raise, k_raise, e_it, k_it, e_for, k_for, run_nil, run_cons, k_turn, k_turnN, k_turnC, k_turnB, k_turnR, k_turnX, src_str, src_tup, src_lst, src_scr, e_try, k_try, k_tryx, k_catch0, k_catchT, k_catchF, k_goneR,
  v_newT, v_newL, v_newR, v_addI, v_addL, v_addT, v_addRL, v_dif, v_eqS, v_eqI, v_neS, v_neI, v_inT, v_inL, v_niT, v_niL, v_isn, v_is, nonM, v_lenL, v_lenT, v_lenC, v_lenR, v_abs, v_intI, v_intB, v_max, v_min, v_listL, v_listT, v_listR, v_tupL, v_tupT, v_tupR, v_ltI, v_leI, v_gtI, v_geI, v_cutC, v_cutL, v_cutT, v_cutR, v_revL, v_app, v_inR, v_ixL, v_ixT, v_ixC, v_ixR,
  at_lit, at_last, ix_lit, v_mulN, v_mulM, v_mulL0, v_mulL1, Nat.zero_le, v_divN, v_powN, v_mod, sbO_some, v_sb, v_pop0, pop0_cons, Int.reduceLT, Int.reduceLE, Int.reducePow, Int.reduceNeg, Int.reduceAdd, Int.reduceSub, Int.reduceMul, h_last, h_set, fin_app, fin_self, setR_some, set_tup, set_lst, set_ref, setO_lst, Nat.lt_irrefl,
  flatM, inF_nil, inF_cons, eqF, List.all_cons, List.all_nil, List.any_cons, List.any_nil, str_beq, str_lit, String.reduceEq, decide_true, decide_false, decide_eq_true_eq, Bool.and_true, Bool.true_and, Bool.and_false, Bool.false_and, Bool.or_true, Bool.true_or, Bool.or_false, Bool.false_or, Bool.not_true, Bool.not_false, Bool.and_self, Bool.or_self,
  List.getElem?_cons_zero, List.getElem?_cons_succ, List.set_cons_zero, List.set_cons_succ, List.getElem?_nil, if_true, reduceIte, Bool.false_eq_true, belows, below, Nat.le_refl, reduceCtorEq, e_lc, k_lc, k_lc2, e_yes, l_nil, l_cons, k_l1, k_l2t, k_l2f, k_l3, e_r1, k_r1N, e_en, k_enL, k_enT, e_mkE, k_mkE, e_erF, k_erF, e_isE, wipeM]
theorem cls_BadOperation (a : MV) (h : MH) : F__law_classes [(.er "BadOperation" [("op", a)])] h = .ok (.lst (hotM 8)) h := by
  unfold F__law_classes
  simp only [k_isR, isR_t, in_NoRow, in_NoPlace, in_NoHandler, in_BadName, in_BadPlace, in_BadSlide, in_NoInverse, in_Twice, in_BadOperation, in_BadCall, in_BadVisit, in_BadLine, in_BadStep, in_BadText, in_BadWorld, in_BadNumber, in_BadSpot, in_BadBound, in_BadKind, in_OtherOperation, in_BadOrder, in_BadPair, in_BadRule, in_BadMend, in_TooMany, in_Clash, in_CallFailed, in_PlaceError, in_MissingError, kin_BadOperation, has_BadOperation, kx_BadOperation_LookupError, kx_BadOperation_ValueError, e_fun, finR_rt, finR_nx, finR_exc, fin_raw, finX_raw, List.map_cons, List.map_nil, List.replicate_succ, List.replicate_zero, List.cons_append, List.nil_append, List.append_nil, List.length_cons, List.length_nil, Nat.zero_add, Nat.reduceAdd, Nat.reduceLeDiff, Nat.reduceLT, Nat.zero_lt_succ, Nat.add_one_pos,  String.reduceBEq, v_isiS, v_isiI, v_isiB, v_isiT, v_isiL, isiR_some, tyM, subT,
  e_var, getS_val, e_k, e_nil, e_cons, k_cons1, k_cons1x, k_cons2, k_cons2x, e_tup, k_tup, k_tupx, e_lst, k_lst, k_lstx, e_op, k_op1, k_op1x, k_op2, k_op2x, e_test, asB_ok, asB_x, noX_ok, e_chain, k_ch1, k_ch2, k_ch3t, k_ch3f, e_and, k_andt, k_andf, e_or, k_ort, k_orf, e_not, k_not, e_if, k_ift, k_iff,
  e_tand, k_tandt, k_tandf, e_tor, k_tort, k_torf, e_tnot, k_tnot, e_tru, k_tru, k_trux, onRef_lst, blR_t, truR_some, tru_bl, tru_int, tru_lst, tru_tup, e_cb, k_cb, k_cbx, e_on1, e_on2, e_call, k_call, k_callx, e_neg, k_neg, e_lm, k_lm, k_lm2, k_lm2x, e_sm, k_sm, e_pn, e_ps, k_ps, e_sl, k_sl1, k_sl2, k_sl3, e_rev, k_rev,
  e_errF, e_errIs, k_errF, k_errIs, opR_some, e_seq, seqS_nx, seqS_rt, seqS_bk, seqS_ct, seqS_exc, e_nx, e_bk, e_ct, e_drop, k_drop, k_dropx, e_ret, k_ret, k_retx, e_retN, e_ifS, k_ifSt, k_ifSf, k_ifSx, e_set, k_set, k_setx, e_asg, k_asg, k_asgx, k_asg2, e_par, k_par, e_gn, e_gs0, e_gs1, k_gs, e_gtp, e_sb, k_sb1, k_sb2,
  e_raise, k_raise, e_it, k_it, e_for, k_for, run_nil, run_cons, k_turn, k_turnN, k_turnC, k_turnB, k_turnR, k_turnX, src_str, src_tup, src_lst, src_scr, e_try, k_try, k_tryx, k_catch0, k_catchT, k_catchF, k_goneR,
  v_newT, v_newL, v_newR, v_addI, v_addL, v_addT, v_addRL, v_dif, v_eqS, v_eqI, v_neS, v_neI, v_inT, v_inL, v_niT, v_niL, v_isn, v_is, nonM, v_lenL, v_lenT, v_lenC, v_lenR, v_abs, v_intI, v_intB, v_max, v_min, v_listL, v_listT, v_listR, v_tupL, v_tupT, v_tupR, v_ltI, v_leI, v_gtI, v_geI, v_cutC, v_cutL, v_cutT, v_cutR, v_revL, v_app, v_inR, v_ixL, v_ixT, v_ixC, v_ixR,
  at_lit, at_last, ix_lit, v_mulN, v_mulM, v_mulL0, v_mulL1, Nat.zero_le, v_divN, v_powN, v_mod, sbO_some, v_sb, v_pop0, pop0_cons, Int.reduceLT, Int.reduceLE, Int.reducePow, Int.reduceNeg, Int.reduceAdd, Int.reduceSub, Int.reduceMul, h_last, h_set, fin_app, fin_self, setR_some, set_tup, set_lst, set_ref, setO_lst, Nat.lt_irrefl,
  flatM, inF_nil, inF_cons, eqF, List.all_cons, List.all_nil, List.any_cons, List.any_nil, str_beq, str_lit, String.reduceEq, decide_true, decide_false, decide_eq_true_eq, Bool.and_true, Bool.true_and, Bool.and_false, Bool.false_and, Bool.or_true, Bool.true_or, Bool.or_false, Bool.false_or, Bool.not_true, Bool.not_false, Bool.and_self, Bool.or_self,
  List.getElem?_cons_zero, List.getElem?_cons_succ, List.set_cons_zero, List.set_cons_succ, List.getElem?_nil, if_true, reduceIte, Bool.false_eq_true, belows, below, Nat.le_refl, reduceCtorEq, e_lc, k_lc, k_lc2, e_yes, l_nil, l_cons, k_l1, k_l2t, k_l2f, k_l3, e_r1, k_r1N, e_en, k_enL, k_enT, e_mkE, k_mkE, e_erF, k_erF, e_isE, wipeM]
  rfl
theorem turn_BadOperation (a : MV) (s0 s1 s2 s3 s4 s5 s6 s7 s8 s9 s10 s13 s14 s15 s16 : Sl) (h : MH) : B_law_2 [s0, s1, s2, s3, s4, s5, s6, s7, s8, s9, s10, .val (.int 8), .val (.er "BadOperation" [("op", a)]), s13, s14, s15, s16] h = .ok .nx [s0, s1, s2, s3, s4, s5, s6, s7, s8, s9, s10, .val (.int 8), .val (.er "BadOperation" [("op", a)]), .val (.lst [.bl false, .bl false]), s14, s15, s16] h := by
  have hc := hot_ok 8 8 rfl s0 s1 s2 s3 s4 s5 s6 s7 s8 s9 s10 (.val (.er "BadOperation" [("op", a)])) s13 s14 s15 s16 (h := h)
  rw [B_law_2_eq]
  simp only [↓hc, cls_BadOperation, ne_hot, ne_two, v_neB, Int.reduceLT, Int.reduceGT, k_isR, isR_t, in_NoRow, in_NoPlace, in_NoHandler, in_BadName, in_BadPlace, in_BadSlide, in_NoInverse, in_Twice, in_BadOperation, in_BadCall, in_BadVisit, in_BadLine, in_BadStep, in_BadText, in_BadWorld, in_BadNumber, in_BadSpot, in_BadBound, in_BadKind, in_OtherOperation, in_BadOrder, in_BadPair, in_BadRule, in_BadMend, in_TooMany, in_Clash, in_CallFailed, in_PlaceError, in_MissingError, kin_BadOperation, has_BadOperation, kx_BadOperation_LookupError, kx_BadOperation_ValueError, e_fun, finR_rt, finR_nx, finR_exc, fin_raw, finX_raw, List.map_cons, List.map_nil, List.replicate_succ, List.replicate_zero, List.cons_append, List.nil_append, List.append_nil, List.length_cons, List.length_nil, Nat.zero_add, Nat.reduceAdd, Nat.reduceLeDiff, Nat.reduceLT, Nat.zero_lt_succ, Nat.add_one_pos,  String.reduceBEq, v_isiS, v_isiI, v_isiB, v_isiT, v_isiL, isiR_some, tyM, subT,
  e_var, getS_val, e_k, e_nil, e_cons, k_cons1, k_cons1x, k_cons2, k_cons2x, e_tup, k_tup, k_tupx, e_lst, k_lst, k_lstx, e_op, k_op1, k_op1x, k_op2, k_op2x, e_test, asB_ok, asB_x, noX_ok, e_chain, k_ch1, k_ch2, k_ch3t, k_ch3f, e_and, k_andt, k_andf, e_or, k_ort, k_orf, e_not, k_not, e_if, k_ift, k_iff,
  e_tand, k_tandt, k_tandf, e_tor, k_tort, k_torf, e_tnot, k_tnot, e_tru, k_tru, k_trux, onRef_lst, blR_t, truR_some, tru_bl, tru_int, tru_lst, tru_tup, e_cb, k_cb, k_cbx, e_on1, e_on2, e_call, k_call, k_callx, e_neg, k_neg, e_lm, k_lm, k_lm2, k_lm2x, e_sm, k_sm, e_pn, e_ps, k_ps, e_sl, k_sl1, k_sl2, k_sl3, e_rev, k_rev,
  e_errF, e_errIs, k_errF, k_errIs, opR_some, e_seq, seqS_nx, seqS_rt, seqS_bk, seqS_ct, seqS_exc, e_nx, e_bk, e_ct, e_drop, k_drop, k_dropx, e_ret, k_ret, k_retx, e_retN, e_ifS, k_ifSt, k_ifSf, k_ifSx, e_set, k_set, k_setx, e_asg, k_asg, k_asgx, k_asg2, e_par, k_par, e_gn, e_gs0, e_gs1, k_gs, e_gtp, e_sb, k_sb1, k_sb2,
  e_raise, k_raise, e_it, k_it, e_for, k_for, run_nil, run_cons, k_turn, k_turnN, k_turnC, k_turnB, k_turnR, k_turnX, src_str, src_tup, src_lst, src_scr, e_try, k_try, k_tryx, k_catch0, k_catchT, k_catchF, k_goneR,
  v_newT, v_newL, v_newR, v_addI, v_addL, v_addT, v_addRL, v_dif, v_eqS, v_eqI, v_neS, v_neI, v_inT, v_inL, v_niT, v_niL, v_isn, v_is, nonM, v_lenL, v_lenT, v_lenC, v_lenR, v_abs, v_intI, v_intB, v_max, v_min, v_listL, v_listT, v_listR, v_tupL, v_tupT, v_tupR, v_ltI, v_leI, v_gtI, v_geI, v_cutC, v_cutL, v_cutT, v_cutR, v_revL, v_app, v_inR, v_ixL, v_ixT, v_ixC, v_ixR,
  at_lit, at_last, ix_lit, v_mulN, v_mulM, v_mulL0, v_mulL1, Nat.zero_le, v_divN, v_powN, v_mod, sbO_some, v_sb, v_pop0, pop0_cons, Int.reduceLT, Int.reduceLE, Int.reducePow, Int.reduceNeg, Int.reduceAdd, Int.reduceSub, Int.reduceMul, h_last, h_set, fin_app, fin_self, setR_some, set_tup, set_lst, set_ref, setO_lst, Nat.lt_irrefl,
  flatM, inF_nil, inF_cons, eqF, List.all_cons, List.all_nil, List.any_cons, List.any_nil, str_beq, str_lit, String.reduceEq, decide_true, decide_false, decide_eq_true_eq, Bool.and_true, Bool.true_and, Bool.and_false, Bool.false_and, Bool.or_true, Bool.true_or, Bool.or_false, Bool.false_or, Bool.not_true, Bool.not_false, Bool.and_self, Bool.or_self,
  List.getElem?_cons_zero, List.getElem?_cons_succ, List.set_cons_zero, List.set_cons_succ, List.getElem?_nil, if_true, reduceIte, Bool.false_eq_true, belows, below, Nat.le_refl, reduceCtorEq, e_lc, k_lc, k_lc2, e_yes, l_nil, l_cons, k_l1, k_l2t, k_l2f, k_l3, e_r1, k_r1N, e_en, k_enL, k_enT, e_mkE, k_mkE, e_erF, k_erF, e_isE, wipeM]
theorem cls_BadCall (a : MV) (h : MH) : F__law_classes [(.er "BadCall" [("argument", a)])] h = .ok (.lst (hotM 9)) h := by
  unfold F__law_classes
  simp only [k_isR, isR_t, in_NoRow, in_NoPlace, in_NoHandler, in_BadName, in_BadPlace, in_BadSlide, in_NoInverse, in_Twice, in_BadOperation, in_BadCall, in_BadVisit, in_BadLine, in_BadStep, in_BadText, in_BadWorld, in_BadNumber, in_BadSpot, in_BadBound, in_BadKind, in_OtherOperation, in_BadOrder, in_BadPair, in_BadRule, in_BadMend, in_TooMany, in_Clash, in_CallFailed, in_PlaceError, in_MissingError, kin_BadCall, has_BadCall, kx_BadCall_LookupError, kx_BadCall_ValueError, e_fun, finR_rt, finR_nx, finR_exc, fin_raw, finX_raw, List.map_cons, List.map_nil, List.replicate_succ, List.replicate_zero, List.cons_append, List.nil_append, List.append_nil, List.length_cons, List.length_nil, Nat.zero_add, Nat.reduceAdd, Nat.reduceLeDiff, Nat.reduceLT, Nat.zero_lt_succ, Nat.add_one_pos,  String.reduceBEq, v_isiS, v_isiI, v_isiB, v_isiT, v_isiL, isiR_some, tyM, subT,
  e_var, getS_val, e_k, e_nil, e_cons, k_cons1, k_cons1x, k_cons2, k_cons2x, e_tup, k_tup, k_tupx, e_lst, k_lst, k_lstx, e_op, k_op1, k_op1x, k_op2, k_op2x, e_test, asB_ok, asB_x, noX_ok, e_chain, k_ch1, k_ch2, k_ch3t, k_ch3f, e_and, k_andt, k_andf, e_or, k_ort, k_orf, e_not, k_not, e_if, k_ift, k_iff,
  e_tand, k_tandt, k_tandf, e_tor, k_tort, k_torf, e_tnot, k_tnot, e_tru, k_tru, k_trux, onRef_lst, blR_t, truR_some, tru_bl, tru_int, tru_lst, tru_tup, e_cb, k_cb, k_cbx, e_on1, e_on2, e_call, k_call, k_callx, e_neg, k_neg, e_lm, k_lm, k_lm2, k_lm2x, e_sm, k_sm, e_pn, e_ps, k_ps, e_sl, k_sl1, k_sl2, k_sl3, e_rev, k_rev,
  e_errF, e_errIs, k_errF, k_errIs, opR_some, e_seq, seqS_nx, seqS_rt, seqS_bk, seqS_ct, seqS_exc, e_nx, e_bk, e_ct, e_drop, k_drop, k_dropx, e_ret, k_ret, k_retx, e_retN, e_ifS, k_ifSt, k_ifSf, k_ifSx, e_set, k_set, k_setx, e_asg, k_asg, k_asgx, k_asg2, e_par, k_par, e_gn, e_gs0, e_gs1, k_gs, e_gtp, e_sb, k_sb1, k_sb2,
  e_raise, k_raise, e_it, k_it, e_for, k_for, run_nil, run_cons, k_turn, k_turnN, k_turnC, k_turnB, k_turnR, k_turnX, src_str, src_tup, src_lst, src_scr, e_try, k_try, k_tryx, k_catch0, k_catchT, k_catchF, k_goneR,
  v_newT, v_newL, v_newR, v_addI, v_addL, v_addT, v_addRL, v_dif, v_eqS, v_eqI, v_neS, v_neI, v_inT, v_inL, v_niT, v_niL, v_isn, v_is, nonM, v_lenL, v_lenT, v_lenC, v_lenR, v_abs, v_intI, v_intB, v_max, v_min, v_listL, v_listT, v_listR, v_tupL, v_tupT, v_tupR, v_ltI, v_leI, v_gtI, v_geI, v_cutC, v_cutL, v_cutT, v_cutR, v_revL, v_app, v_inR, v_ixL, v_ixT, v_ixC, v_ixR,
  at_lit, at_last, ix_lit, v_mulN, v_mulM, v_mulL0, v_mulL1, Nat.zero_le, v_divN, v_powN, v_mod, sbO_some, v_sb, v_pop0, pop0_cons, Int.reduceLT, Int.reduceLE, Int.reducePow, Int.reduceNeg, Int.reduceAdd, Int.reduceSub, Int.reduceMul, h_last, h_set, fin_app, fin_self, setR_some, set_tup, set_lst, set_ref, setO_lst, Nat.lt_irrefl,
  flatM, inF_nil, inF_cons, eqF, List.all_cons, List.all_nil, List.any_cons, List.any_nil, str_beq, str_lit, String.reduceEq, decide_true, decide_false, decide_eq_true_eq, Bool.and_true, Bool.true_and, Bool.and_false, Bool.false_and, Bool.or_true, Bool.true_or, Bool.or_false, Bool.false_or, Bool.not_true, Bool.not_false, Bool.and_self, Bool.or_self,
  List.getElem?_cons_zero, List.getElem?_cons_succ, List.set_cons_zero, List.set_cons_succ, List.getElem?_nil, if_true, reduceIte, Bool.false_eq_true, belows, below, Nat.le_refl, reduceCtorEq, e_lc, k_lc, k_lc2, e_yes, l_nil, l_cons, k_l1, k_l2t, k_l2f, k_l3, e_r1, k_r1N, e_en, k_enL, k_enT, e_mkE, k_mkE, e_erF, k_erF, e_isE, wipeM]
  rfl
theorem turn_BadCall (a : MV) (s0 s1 s2 s3 s4 s5 s6 s7 s8 s9 s10 s13 s14 s15 s16 : Sl) (h : MH) : B_law_2 [s0, s1, s2, s3, s4, s5, s6, s7, s8, s9, s10, .val (.int 9), .val (.er "BadCall" [("argument", a)]), s13, s14, s15, s16] h = .ok .nx [s0, s1, s2, s3, s4, s5, s6, s7, s8, s9, s10, .val (.int 9), .val (.er "BadCall" [("argument", a)]), .val (.lst [.bl false, .bl false]), s14, s15, s16] h := by
  have hc := hot_ok 9 9 rfl s0 s1 s2 s3 s4 s5 s6 s7 s8 s9 s10 (.val (.er "BadCall" [("argument", a)])) s13 s14 s15 s16 (h := h)
  rw [B_law_2_eq]
  simp only [↓hc, cls_BadCall, ne_hot, ne_two, v_neB, Int.reduceLT, Int.reduceGT, k_isR, isR_t, in_NoRow, in_NoPlace, in_NoHandler, in_BadName, in_BadPlace, in_BadSlide, in_NoInverse, in_Twice, in_BadOperation, in_BadCall, in_BadVisit, in_BadLine, in_BadStep, in_BadText, in_BadWorld, in_BadNumber, in_BadSpot, in_BadBound, in_BadKind, in_OtherOperation, in_BadOrder, in_BadPair, in_BadRule, in_BadMend, in_TooMany, in_Clash, in_CallFailed, in_PlaceError, in_MissingError, kin_BadCall, has_BadCall, kx_BadCall_LookupError, kx_BadCall_ValueError, e_fun, finR_rt, finR_nx, finR_exc, fin_raw, finX_raw, List.map_cons, List.map_nil, List.replicate_succ, List.replicate_zero, List.cons_append, List.nil_append, List.append_nil, List.length_cons, List.length_nil, Nat.zero_add, Nat.reduceAdd, Nat.reduceLeDiff, Nat.reduceLT, Nat.zero_lt_succ, Nat.add_one_pos,  String.reduceBEq, v_isiS, v_isiI, v_isiB, v_isiT, v_isiL, isiR_some, tyM, subT,
  e_var, getS_val, e_k, e_nil, e_cons, k_cons1, k_cons1x, k_cons2, k_cons2x, e_tup, k_tup, k_tupx, e_lst, k_lst, k_lstx, e_op, k_op1, k_op1x, k_op2, k_op2x, e_test, asB_ok, asB_x, noX_ok, e_chain, k_ch1, k_ch2, k_ch3t, k_ch3f, e_and, k_andt, k_andf, e_or, k_ort, k_orf, e_not, k_not, e_if, k_ift, k_iff,
  e_tand, k_tandt, k_tandf, e_tor, k_tort, k_torf, e_tnot, k_tnot, e_tru, k_tru, k_trux, onRef_lst, blR_t, truR_some, tru_bl, tru_int, tru_lst, tru_tup, e_cb, k_cb, k_cbx, e_on1, e_on2, e_call, k_call, k_callx, e_neg, k_neg, e_lm, k_lm, k_lm2, k_lm2x, e_sm, k_sm, e_pn, e_ps, k_ps, e_sl, k_sl1, k_sl2, k_sl3, e_rev, k_rev,
  e_errF, e_errIs, k_errF, k_errIs, opR_some, e_seq, seqS_nx, seqS_rt, seqS_bk, seqS_ct, seqS_exc, e_nx, e_bk, e_ct, e_drop, k_drop, k_dropx, e_ret, k_ret, k_retx, e_retN, e_ifS, k_ifSt, k_ifSf, k_ifSx, e_set, k_set, k_setx, e_asg, k_asg, k_asgx, k_asg2, e_par, k_par, e_gn, e_gs0, e_gs1, k_gs, e_gtp, e_sb, k_sb1, k_sb2,
  e_raise, k_raise, e_it, k_it, e_for, k_for, run_nil, run_cons, k_turn, k_turnN, k_turnC, k_turnB, k_turnR, k_turnX, src_str, src_tup, src_lst, src_scr, e_try, k_try, k_tryx, k_catch0, k_catchT, k_catchF, k_goneR,
  v_newT, v_newL, v_newR, v_addI, v_addL, v_addT, v_addRL, v_dif, v_eqS, v_eqI, v_neS, v_neI, v_inT, v_inL, v_niT, v_niL, v_isn, v_is, nonM, v_lenL, v_lenT, v_lenC, v_lenR, v_abs, v_intI, v_intB, v_max, v_min, v_listL, v_listT, v_listR, v_tupL, v_tupT, v_tupR, v_ltI, v_leI, v_gtI, v_geI, v_cutC, v_cutL, v_cutT, v_cutR, v_revL, v_app, v_inR, v_ixL, v_ixT, v_ixC, v_ixR,
  at_lit, at_last, ix_lit, v_mulN, v_mulM, v_mulL0, v_mulL1, Nat.zero_le, v_divN, v_powN, v_mod, sbO_some, v_sb, v_pop0, pop0_cons, Int.reduceLT, Int.reduceLE, Int.reducePow, Int.reduceNeg, Int.reduceAdd, Int.reduceSub, Int.reduceMul, h_last, h_set, fin_app, fin_self, setR_some, set_tup, set_lst, set_ref, setO_lst, Nat.lt_irrefl,
  flatM, inF_nil, inF_cons, eqF, List.all_cons, List.all_nil, List.any_cons, List.any_nil, str_beq, str_lit, String.reduceEq, decide_true, decide_false, decide_eq_true_eq, Bool.and_true, Bool.true_and, Bool.and_false, Bool.false_and, Bool.or_true, Bool.true_or, Bool.or_false, Bool.false_or, Bool.not_true, Bool.not_false, Bool.and_self, Bool.or_self,
  List.getElem?_cons_zero, List.getElem?_cons_succ, List.set_cons_zero, List.set_cons_succ, List.getElem?_nil, if_true, reduceIte, Bool.false_eq_true, belows, below, Nat.le_refl, reduceCtorEq, e_lc, k_lc, k_lc2, e_yes, l_nil, l_cons, k_l1, k_l2t, k_l2f, k_l3, e_r1, k_r1N, e_en, k_enL, k_enT, e_mkE, k_mkE, e_erF, k_erF, e_isE, wipeM]
theorem cls_BadVisit (a : MV) (h : MH) : F__law_classes [(.er "BadVisit" [("visit", a)])] h = .ok (.lst (hotM 10)) h := by
  unfold F__law_classes
  simp only [k_isR, isR_t, in_NoRow, in_NoPlace, in_NoHandler, in_BadName, in_BadPlace, in_BadSlide, in_NoInverse, in_Twice, in_BadOperation, in_BadCall, in_BadVisit, in_BadLine, in_BadStep, in_BadText, in_BadWorld, in_BadNumber, in_BadSpot, in_BadBound, in_BadKind, in_OtherOperation, in_BadOrder, in_BadPair, in_BadRule, in_BadMend, in_TooMany, in_Clash, in_CallFailed, in_PlaceError, in_MissingError, kin_BadVisit, has_BadVisit, kx_BadVisit_LookupError, kx_BadVisit_ValueError, e_fun, finR_rt, finR_nx, finR_exc, fin_raw, finX_raw, List.map_cons, List.map_nil, List.replicate_succ, List.replicate_zero, List.cons_append, List.nil_append, List.append_nil, List.length_cons, List.length_nil, Nat.zero_add, Nat.reduceAdd, Nat.reduceLeDiff, Nat.reduceLT, Nat.zero_lt_succ, Nat.add_one_pos,  String.reduceBEq, v_isiS, v_isiI, v_isiB, v_isiT, v_isiL, isiR_some, tyM, subT,
  e_var, getS_val, e_k, e_nil, e_cons, k_cons1, k_cons1x, k_cons2, k_cons2x, e_tup, k_tup, k_tupx, e_lst, k_lst, k_lstx, e_op, k_op1, k_op1x, k_op2, k_op2x, e_test, asB_ok, asB_x, noX_ok, e_chain, k_ch1, k_ch2, k_ch3t, k_ch3f, e_and, k_andt, k_andf, e_or, k_ort, k_orf, e_not, k_not, e_if, k_ift, k_iff,
  e_tand, k_tandt, k_tandf, e_tor, k_tort, k_torf, e_tnot, k_tnot, e_tru, k_tru, k_trux, onRef_lst, blR_t, truR_some, tru_bl, tru_int, tru_lst, tru_tup, e_cb, k_cb, k_cbx, e_on1, e_on2, e_call, k_call, k_callx, e_neg, k_neg, e_lm, k_lm, k_lm2, k_lm2x, e_sm, k_sm, e_pn, e_ps, k_ps, e_sl, k_sl1, k_sl2, k_sl3, e_rev, k_rev,
  e_errF, e_errIs, k_errF, k_errIs, opR_some, e_seq, seqS_nx, seqS_rt, seqS_bk, seqS_ct, seqS_exc, e_nx, e_bk, e_ct, e_drop, k_drop, k_dropx, e_ret, k_ret, k_retx, e_retN, e_ifS, k_ifSt, k_ifSf, k_ifSx, e_set, k_set, k_setx, e_asg, k_asg, k_asgx, k_asg2, e_par, k_par, e_gn, e_gs0, e_gs1, k_gs, e_gtp, e_sb, k_sb1, k_sb2,
  e_raise, k_raise, e_it, k_it, e_for, k_for, run_nil, run_cons, k_turn, k_turnN, k_turnC, k_turnB, k_turnR, k_turnX, src_str, src_tup, src_lst, src_scr, e_try, k_try, k_tryx, k_catch0, k_catchT, k_catchF, k_goneR,
  v_newT, v_newL, v_newR, v_addI, v_addL, v_addT, v_addRL, v_dif, v_eqS, v_eqI, v_neS, v_neI, v_inT, v_inL, v_niT, v_niL, v_isn, v_is, nonM, v_lenL, v_lenT, v_lenC, v_lenR, v_abs, v_intI, v_intB, v_max, v_min, v_listL, v_listT, v_listR, v_tupL, v_tupT, v_tupR, v_ltI, v_leI, v_gtI, v_geI, v_cutC, v_cutL, v_cutT, v_cutR, v_revL, v_app, v_inR, v_ixL, v_ixT, v_ixC, v_ixR,
  at_lit, at_last, ix_lit, v_mulN, v_mulM, v_mulL0, v_mulL1, Nat.zero_le, v_divN, v_powN, v_mod, sbO_some, v_sb, v_pop0, pop0_cons, Int.reduceLT, Int.reduceLE, Int.reducePow, Int.reduceNeg, Int.reduceAdd, Int.reduceSub, Int.reduceMul, h_last, h_set, fin_app, fin_self, setR_some, set_tup, set_lst, set_ref, setO_lst, Nat.lt_irrefl,
  flatM, inF_nil, inF_cons, eqF, List.all_cons, List.all_nil, List.any_cons, List.any_nil, str_beq, str_lit, String.reduceEq, decide_true, decide_false, decide_eq_true_eq, Bool.and_true, Bool.true_and, Bool.and_false, Bool.false_and, Bool.or_true, Bool.true_or, Bool.or_false, Bool.false_or, Bool.not_true, Bool.not_false, Bool.and_self, Bool.or_self,
  List.getElem?_cons_zero, List.getElem?_cons_succ, List.set_cons_zero, List.set_cons_succ, List.getElem?_nil, if_true, reduceIte, Bool.false_eq_true, belows, below, Nat.le_refl, reduceCtorEq, e_lc, k_lc, k_lc2, e_yes, l_nil, l_cons, k_l1, k_l2t, k_l2f, k_l3, e_r1, k_r1N, e_en, k_enL, k_enT, e_mkE, k_mkE, e_erF, k_erF, e_isE, wipeM]
  rfl
theorem turn_BadVisit (a : MV) (s0 s1 s2 s3 s4 s5 s6 s7 s8 s9 s10 s13 s14 s15 s16 : Sl) (h : MH) : B_law_2 [s0, s1, s2, s3, s4, s5, s6, s7, s8, s9, s10, .val (.int 10), .val (.er "BadVisit" [("visit", a)]), s13, s14, s15, s16] h = .ok .nx [s0, s1, s2, s3, s4, s5, s6, s7, s8, s9, s10, .val (.int 10), .val (.er "BadVisit" [("visit", a)]), .val (.lst [.bl false, .bl false]), s14, s15, s16] h := by
  have hc := hot_ok 10 10 rfl s0 s1 s2 s3 s4 s5 s6 s7 s8 s9 s10 (.val (.er "BadVisit" [("visit", a)])) s13 s14 s15 s16 (h := h)
  rw [B_law_2_eq]
  simp only [↓hc, cls_BadVisit, ne_hot, ne_two, v_neB, Int.reduceLT, Int.reduceGT, k_isR, isR_t, in_NoRow, in_NoPlace, in_NoHandler, in_BadName, in_BadPlace, in_BadSlide, in_NoInverse, in_Twice, in_BadOperation, in_BadCall, in_BadVisit, in_BadLine, in_BadStep, in_BadText, in_BadWorld, in_BadNumber, in_BadSpot, in_BadBound, in_BadKind, in_OtherOperation, in_BadOrder, in_BadPair, in_BadRule, in_BadMend, in_TooMany, in_Clash, in_CallFailed, in_PlaceError, in_MissingError, kin_BadVisit, has_BadVisit, kx_BadVisit_LookupError, kx_BadVisit_ValueError, e_fun, finR_rt, finR_nx, finR_exc, fin_raw, finX_raw, List.map_cons, List.map_nil, List.replicate_succ, List.replicate_zero, List.cons_append, List.nil_append, List.append_nil, List.length_cons, List.length_nil, Nat.zero_add, Nat.reduceAdd, Nat.reduceLeDiff, Nat.reduceLT, Nat.zero_lt_succ, Nat.add_one_pos,  String.reduceBEq, v_isiS, v_isiI, v_isiB, v_isiT, v_isiL, isiR_some, tyM, subT,
  e_var, getS_val, e_k, e_nil, e_cons, k_cons1, k_cons1x, k_cons2, k_cons2x, e_tup, k_tup, k_tupx, e_lst, k_lst, k_lstx, e_op, k_op1, k_op1x, k_op2, k_op2x, e_test, asB_ok, asB_x, noX_ok, e_chain, k_ch1, k_ch2, k_ch3t, k_ch3f, e_and, k_andt, k_andf, e_or, k_ort, k_orf, e_not, k_not, e_if, k_ift, k_iff,
  e_tand, k_tandt, k_tandf, e_tor, k_tort, k_torf, e_tnot, k_tnot, e_tru, k_tru, k_trux, onRef_lst, blR_t, truR_some, tru_bl, tru_int, tru_lst, tru_tup, e_cb, k_cb, k_cbx, e_on1, e_on2, e_call, k_call, k_callx, e_neg, k_neg, e_lm, k_lm, k_lm2, k_lm2x, e_sm, k_sm, e_pn, e_ps, k_ps, e_sl, k_sl1, k_sl2, k_sl3, e_rev, k_rev,
  e_errF, e_errIs, k_errF, k_errIs, opR_some, e_seq, seqS_nx, seqS_rt, seqS_bk, seqS_ct, seqS_exc, e_nx, e_bk, e_ct, e_drop, k_drop, k_dropx, e_ret, k_ret, k_retx, e_retN, e_ifS, k_ifSt, k_ifSf, k_ifSx, e_set, k_set, k_setx, e_asg, k_asg, k_asgx, k_asg2, e_par, k_par, e_gn, e_gs0, e_gs1, k_gs, e_gtp, e_sb, k_sb1, k_sb2,
  e_raise, k_raise, e_it, k_it, e_for, k_for, run_nil, run_cons, k_turn, k_turnN, k_turnC, k_turnB, k_turnR, k_turnX, src_str, src_tup, src_lst, src_scr, e_try, k_try, k_tryx, k_catch0, k_catchT, k_catchF, k_goneR,
  v_newT, v_newL, v_newR, v_addI, v_addL, v_addT, v_addRL, v_dif, v_eqS, v_eqI, v_neS, v_neI, v_inT, v_inL, v_niT, v_niL, v_isn, v_is, nonM, v_lenL, v_lenT, v_lenC, v_lenR, v_abs, v_intI, v_intB, v_max, v_min, v_listL, v_listT, v_listR, v_tupL, v_tupT, v_tupR, v_ltI, v_leI, v_gtI, v_geI, v_cutC, v_cutL, v_cutT, v_cutR, v_revL, v_app, v_inR, v_ixL, v_ixT, v_ixC, v_ixR,
  at_lit, at_last, ix_lit, v_mulN, v_mulM, v_mulL0, v_mulL1, Nat.zero_le, v_divN, v_powN, v_mod, sbO_some, v_sb, v_pop0, pop0_cons, Int.reduceLT, Int.reduceLE, Int.reducePow, Int.reduceNeg, Int.reduceAdd, Int.reduceSub, Int.reduceMul, h_last, h_set, fin_app, fin_self, setR_some, set_tup, set_lst, set_ref, setO_lst, Nat.lt_irrefl,
  flatM, inF_nil, inF_cons, eqF, List.all_cons, List.all_nil, List.any_cons, List.any_nil, str_beq, str_lit, String.reduceEq, decide_true, decide_false, decide_eq_true_eq, Bool.and_true, Bool.true_and, Bool.and_false, Bool.false_and, Bool.or_true, Bool.true_or, Bool.or_false, Bool.false_or, Bool.not_true, Bool.not_false, Bool.and_self, Bool.or_self,
  List.getElem?_cons_zero, List.getElem?_cons_succ, List.set_cons_zero, List.set_cons_succ, List.getElem?_nil, if_true, reduceIte, Bool.false_eq_true, belows, below, Nat.le_refl, reduceCtorEq, e_lc, k_lc, k_lc2, e_yes, l_nil, l_cons, k_l1, k_l2t, k_l2f, k_l3, e_r1, k_r1N, e_en, k_enL, k_enT, e_mkE, k_mkE, e_erF, k_erF, e_isE, wipeM]
theorem cls_BadLine (a : MV) (h : MH) : F__law_classes [(.er "BadLine" [("line", a)])] h = .ok (.lst (hotM 11)) h := by
  unfold F__law_classes
  simp only [k_isR, isR_t, in_NoRow, in_NoPlace, in_NoHandler, in_BadName, in_BadPlace, in_BadSlide, in_NoInverse, in_Twice, in_BadOperation, in_BadCall, in_BadVisit, in_BadLine, in_BadStep, in_BadText, in_BadWorld, in_BadNumber, in_BadSpot, in_BadBound, in_BadKind, in_OtherOperation, in_BadOrder, in_BadPair, in_BadRule, in_BadMend, in_TooMany, in_Clash, in_CallFailed, in_PlaceError, in_MissingError, kin_BadLine, has_BadLine, kx_BadLine_LookupError, kx_BadLine_ValueError, e_fun, finR_rt, finR_nx, finR_exc, fin_raw, finX_raw, List.map_cons, List.map_nil, List.replicate_succ, List.replicate_zero, List.cons_append, List.nil_append, List.append_nil, List.length_cons, List.length_nil, Nat.zero_add, Nat.reduceAdd, Nat.reduceLeDiff, Nat.reduceLT, Nat.zero_lt_succ, Nat.add_one_pos,  String.reduceBEq, v_isiS, v_isiI, v_isiB, v_isiT, v_isiL, isiR_some, tyM, subT,
  e_var, getS_val, e_k, e_nil, e_cons, k_cons1, k_cons1x, k_cons2, k_cons2x, e_tup, k_tup, k_tupx, e_lst, k_lst, k_lstx, e_op, k_op1, k_op1x, k_op2, k_op2x, e_test, asB_ok, asB_x, noX_ok, e_chain, k_ch1, k_ch2, k_ch3t, k_ch3f, e_and, k_andt, k_andf, e_or, k_ort, k_orf, e_not, k_not, e_if, k_ift, k_iff,
  e_tand, k_tandt, k_tandf, e_tor, k_tort, k_torf, e_tnot, k_tnot, e_tru, k_tru, k_trux, onRef_lst, blR_t, truR_some, tru_bl, tru_int, tru_lst, tru_tup, e_cb, k_cb, k_cbx, e_on1, e_on2, e_call, k_call, k_callx, e_neg, k_neg, e_lm, k_lm, k_lm2, k_lm2x, e_sm, k_sm, e_pn, e_ps, k_ps, e_sl, k_sl1, k_sl2, k_sl3, e_rev, k_rev,
  e_errF, e_errIs, k_errF, k_errIs, opR_some, e_seq, seqS_nx, seqS_rt, seqS_bk, seqS_ct, seqS_exc, e_nx, e_bk, e_ct, e_drop, k_drop, k_dropx, e_ret, k_ret, k_retx, e_retN, e_ifS, k_ifSt, k_ifSf, k_ifSx, e_set, k_set, k_setx, e_asg, k_asg, k_asgx, k_asg2, e_par, k_par, e_gn, e_gs0, e_gs1, k_gs, e_gtp, e_sb, k_sb1, k_sb2,
  e_raise, k_raise, e_it, k_it, e_for, k_for, run_nil, run_cons, k_turn, k_turnN, k_turnC, k_turnB, k_turnR, k_turnX, src_str, src_tup, src_lst, src_scr, e_try, k_try, k_tryx, k_catch0, k_catchT, k_catchF, k_goneR,
  v_newT, v_newL, v_newR, v_addI, v_addL, v_addT, v_addRL, v_dif, v_eqS, v_eqI, v_neS, v_neI, v_inT, v_inL, v_niT, v_niL, v_isn, v_is, nonM, v_lenL, v_lenT, v_lenC, v_lenR, v_abs, v_intI, v_intB, v_max, v_min, v_listL, v_listT, v_listR, v_tupL, v_tupT, v_tupR, v_ltI, v_leI, v_gtI, v_geI, v_cutC, v_cutL, v_cutT, v_cutR, v_revL, v_app, v_inR, v_ixL, v_ixT, v_ixC, v_ixR,
  at_lit, at_last, ix_lit, v_mulN, v_mulM, v_mulL0, v_mulL1, Nat.zero_le, v_divN, v_powN, v_mod, sbO_some, v_sb, v_pop0, pop0_cons, Int.reduceLT, Int.reduceLE, Int.reducePow, Int.reduceNeg, Int.reduceAdd, Int.reduceSub, Int.reduceMul, h_last, h_set, fin_app, fin_self, setR_some, set_tup, set_lst, set_ref, setO_lst, Nat.lt_irrefl,
  flatM, inF_nil, inF_cons, eqF, List.all_cons, List.all_nil, List.any_cons, List.any_nil, str_beq, str_lit, String.reduceEq, decide_true, decide_false, decide_eq_true_eq, Bool.and_true, Bool.true_and, Bool.and_false, Bool.false_and, Bool.or_true, Bool.true_or, Bool.or_false, Bool.false_or, Bool.not_true, Bool.not_false, Bool.and_self, Bool.or_self,
  List.getElem?_cons_zero, List.getElem?_cons_succ, List.set_cons_zero, List.set_cons_succ, List.getElem?_nil, if_true, reduceIte, Bool.false_eq_true, belows, below, Nat.le_refl, reduceCtorEq, e_lc, k_lc, k_lc2, e_yes, l_nil, l_cons, k_l1, k_l2t, k_l2f, k_l3, e_r1, k_r1N, e_en, k_enL, k_enT, e_mkE, k_mkE, e_erF, k_erF, e_isE, wipeM]
  rfl
theorem turn_BadLine (a : MV) (s0 s1 s2 s3 s4 s5 s6 s7 s8 s9 s10 s13 s14 s15 s16 : Sl) (h : MH) : B_law_2 [s0, s1, s2, s3, s4, s5, s6, s7, s8, s9, s10, .val (.int 11), .val (.er "BadLine" [("line", a)]), s13, s14, s15, s16] h = .ok .nx [s0, s1, s2, s3, s4, s5, s6, s7, s8, s9, s10, .val (.int 11), .val (.er "BadLine" [("line", a)]), .val (.lst [.bl false, .bl false]), s14, s15, s16] h := by
  have hc := hot_ok 11 11 rfl s0 s1 s2 s3 s4 s5 s6 s7 s8 s9 s10 (.val (.er "BadLine" [("line", a)])) s13 s14 s15 s16 (h := h)
  rw [B_law_2_eq]
  simp only [↓hc, cls_BadLine, ne_hot, ne_two, v_neB, Int.reduceLT, Int.reduceGT, k_isR, isR_t, in_NoRow, in_NoPlace, in_NoHandler, in_BadName, in_BadPlace, in_BadSlide, in_NoInverse, in_Twice, in_BadOperation, in_BadCall, in_BadVisit, in_BadLine, in_BadStep, in_BadText, in_BadWorld, in_BadNumber, in_BadSpot, in_BadBound, in_BadKind, in_OtherOperation, in_BadOrder, in_BadPair, in_BadRule, in_BadMend, in_TooMany, in_Clash, in_CallFailed, in_PlaceError, in_MissingError, kin_BadLine, has_BadLine, kx_BadLine_LookupError, kx_BadLine_ValueError, e_fun, finR_rt, finR_nx, finR_exc, fin_raw, finX_raw, List.map_cons, List.map_nil, List.replicate_succ, List.replicate_zero, List.cons_append, List.nil_append, List.append_nil, List.length_cons, List.length_nil, Nat.zero_add, Nat.reduceAdd, Nat.reduceLeDiff, Nat.reduceLT, Nat.zero_lt_succ, Nat.add_one_pos,  String.reduceBEq, v_isiS, v_isiI, v_isiB, v_isiT, v_isiL, isiR_some, tyM, subT,
  e_var, getS_val, e_k, e_nil, e_cons, k_cons1, k_cons1x, k_cons2, k_cons2x, e_tup, k_tup, k_tupx, e_lst, k_lst, k_lstx, e_op, k_op1, k_op1x, k_op2, k_op2x, e_test, asB_ok, asB_x, noX_ok, e_chain, k_ch1, k_ch2, k_ch3t, k_ch3f, e_and, k_andt, k_andf, e_or, k_ort, k_orf, e_not, k_not, e_if, k_ift, k_iff,
  e_tand, k_tandt, k_tandf, e_tor, k_tort, k_torf, e_tnot, k_tnot, e_tru, k_tru, k_trux, onRef_lst, blR_t, truR_some, tru_bl, tru_int, tru_lst, tru_tup, e_cb, k_cb, k_cbx, e_on1, e_on2, e_call, k_call, k_callx, e_neg, k_neg, e_lm, k_lm, k_lm2, k_lm2x, e_sm, k_sm, e_pn, e_ps, k_ps, e_sl, k_sl1, k_sl2, k_sl3, e_rev, k_rev,
  e_errF, e_errIs, k_errF, k_errIs, opR_some, e_seq, seqS_nx, seqS_rt, seqS_bk, seqS_ct, seqS_exc, e_nx, e_bk, e_ct, e_drop, k_drop, k_dropx, e_ret, k_ret, k_retx, e_retN, e_ifS, k_ifSt, k_ifSf, k_ifSx, e_set, k_set, k_setx, e_asg, k_asg, k_asgx, k_asg2, e_par, k_par, e_gn, e_gs0, e_gs1, k_gs, e_gtp, e_sb, k_sb1, k_sb2,
  e_raise, k_raise, e_it, k_it, e_for, k_for, run_nil, run_cons, k_turn, k_turnN, k_turnC, k_turnB, k_turnR, k_turnX, src_str, src_tup, src_lst, src_scr, e_try, k_try, k_tryx, k_catch0, k_catchT, k_catchF, k_goneR,
  v_newT, v_newL, v_newR, v_addI, v_addL, v_addT, v_addRL, v_dif, v_eqS, v_eqI, v_neS, v_neI, v_inT, v_inL, v_niT, v_niL, v_isn, v_is, nonM, v_lenL, v_lenT, v_lenC, v_lenR, v_abs, v_intI, v_intB, v_max, v_min, v_listL, v_listT, v_listR, v_tupL, v_tupT, v_tupR, v_ltI, v_leI, v_gtI, v_geI, v_cutC, v_cutL, v_cutT, v_cutR, v_revL, v_app, v_inR, v_ixL, v_ixT, v_ixC, v_ixR,
  at_lit, at_last, ix_lit, v_mulN, v_mulM, v_mulL0, v_mulL1, Nat.zero_le, v_divN, v_powN, v_mod, sbO_some, v_sb, v_pop0, pop0_cons, Int.reduceLT, Int.reduceLE, Int.reducePow, Int.reduceNeg, Int.reduceAdd, Int.reduceSub, Int.reduceMul, h_last, h_set, fin_app, fin_self, setR_some, set_tup, set_lst, set_ref, setO_lst, Nat.lt_irrefl,
  flatM, inF_nil, inF_cons, eqF, List.all_cons, List.all_nil, List.any_cons, List.any_nil, str_beq, str_lit, String.reduceEq, decide_true, decide_false, decide_eq_true_eq, Bool.and_true, Bool.true_and, Bool.and_false, Bool.false_and, Bool.or_true, Bool.true_or, Bool.or_false, Bool.false_or, Bool.not_true, Bool.not_false, Bool.and_self, Bool.or_self,
  List.getElem?_cons_zero, List.getElem?_cons_succ, List.set_cons_zero, List.set_cons_succ, List.getElem?_nil, if_true, reduceIte, Bool.false_eq_true, belows, below, Nat.le_refl, reduceCtorEq, e_lc, k_lc, k_lc2, e_yes, l_nil, l_cons, k_l1, k_l2t, k_l2f, k_l3, e_r1, k_r1N, e_en, k_enL, k_enT, e_mkE, k_mkE, e_erF, k_erF, e_isE, wipeM]
theorem cls_BadStep (a : MV) (h : MH) : F__law_classes [(.er "BadStep" [("index", a)])] h = .ok (.lst (hotM 12)) h := by
  unfold F__law_classes
  simp only [k_isR, isR_t, in_NoRow, in_NoPlace, in_NoHandler, in_BadName, in_BadPlace, in_BadSlide, in_NoInverse, in_Twice, in_BadOperation, in_BadCall, in_BadVisit, in_BadLine, in_BadStep, in_BadText, in_BadWorld, in_BadNumber, in_BadSpot, in_BadBound, in_BadKind, in_OtherOperation, in_BadOrder, in_BadPair, in_BadRule, in_BadMend, in_TooMany, in_Clash, in_CallFailed, in_PlaceError, in_MissingError, kin_BadStep, has_BadStep, kx_BadStep_LookupError, kx_BadStep_ValueError, e_fun, finR_rt, finR_nx, finR_exc, fin_raw, finX_raw, List.map_cons, List.map_nil, List.replicate_succ, List.replicate_zero, List.cons_append, List.nil_append, List.append_nil, List.length_cons, List.length_nil, Nat.zero_add, Nat.reduceAdd, Nat.reduceLeDiff, Nat.reduceLT, Nat.zero_lt_succ, Nat.add_one_pos,  String.reduceBEq, v_isiS, v_isiI, v_isiB, v_isiT, v_isiL, isiR_some, tyM, subT,
  e_var, getS_val, e_k, e_nil, e_cons, k_cons1, k_cons1x, k_cons2, k_cons2x, e_tup, k_tup, k_tupx, e_lst, k_lst, k_lstx, e_op, k_op1, k_op1x, k_op2, k_op2x, e_test, asB_ok, asB_x, noX_ok, e_chain, k_ch1, k_ch2, k_ch3t, k_ch3f, e_and, k_andt, k_andf, e_or, k_ort, k_orf, e_not, k_not, e_if, k_ift, k_iff,
  e_tand, k_tandt, k_tandf, e_tor, k_tort, k_torf, e_tnot, k_tnot, e_tru, k_tru, k_trux, onRef_lst, blR_t, truR_some, tru_bl, tru_int, tru_lst, tru_tup, e_cb, k_cb, k_cbx, e_on1, e_on2, e_call, k_call, k_callx, e_neg, k_neg, e_lm, k_lm, k_lm2, k_lm2x, e_sm, k_sm, e_pn, e_ps, k_ps, e_sl, k_sl1, k_sl2, k_sl3, e_rev, k_rev,
  e_errF, e_errIs, k_errF, k_errIs, opR_some, e_seq, seqS_nx, seqS_rt, seqS_bk, seqS_ct, seqS_exc, e_nx, e_bk, e_ct, e_drop, k_drop, k_dropx, e_ret, k_ret, k_retx, e_retN, e_ifS, k_ifSt, k_ifSf, k_ifSx, e_set, k_set, k_setx, e_asg, k_asg, k_asgx, k_asg2, e_par, k_par, e_gn, e_gs0, e_gs1, k_gs, e_gtp, e_sb, k_sb1, k_sb2,
  e_raise, k_raise, e_it, k_it, e_for, k_for, run_nil, run_cons, k_turn, k_turnN, k_turnC, k_turnB, k_turnR, k_turnX, src_str, src_tup, src_lst, src_scr, e_try, k_try, k_tryx, k_catch0, k_catchT, k_catchF, k_goneR,
  v_newT, v_newL, v_newR, v_addI, v_addL, v_addT, v_addRL, v_dif, v_eqS, v_eqI, v_neS, v_neI, v_inT, v_inL, v_niT, v_niL, v_isn, v_is, nonM, v_lenL, v_lenT, v_lenC, v_lenR, v_abs, v_intI, v_intB, v_max, v_min, v_listL, v_listT, v_listR, v_tupL, v_tupT, v_tupR, v_ltI, v_leI, v_gtI, v_geI, v_cutC, v_cutL, v_cutT, v_cutR, v_revL, v_app, v_inR, v_ixL, v_ixT, v_ixC, v_ixR,
  at_lit, at_last, ix_lit, v_mulN, v_mulM, v_mulL0, v_mulL1, Nat.zero_le, v_divN, v_powN, v_mod, sbO_some, v_sb, v_pop0, pop0_cons, Int.reduceLT, Int.reduceLE, Int.reducePow, Int.reduceNeg, Int.reduceAdd, Int.reduceSub, Int.reduceMul, h_last, h_set, fin_app, fin_self, setR_some, set_tup, set_lst, set_ref, setO_lst, Nat.lt_irrefl,
  flatM, inF_nil, inF_cons, eqF, List.all_cons, List.all_nil, List.any_cons, List.any_nil, str_beq, str_lit, String.reduceEq, decide_true, decide_false, decide_eq_true_eq, Bool.and_true, Bool.true_and, Bool.and_false, Bool.false_and, Bool.or_true, Bool.true_or, Bool.or_false, Bool.false_or, Bool.not_true, Bool.not_false, Bool.and_self, Bool.or_self,
  List.getElem?_cons_zero, List.getElem?_cons_succ, List.set_cons_zero, List.set_cons_succ, List.getElem?_nil, if_true, reduceIte, Bool.false_eq_true, belows, below, Nat.le_refl, reduceCtorEq, e_lc, k_lc, k_lc2, e_yes, l_nil, l_cons, k_l1, k_l2t, k_l2f, k_l3, e_r1, k_r1N, e_en, k_enL, k_enT, e_mkE, k_mkE, e_erF, k_erF, e_isE, wipeM]
  rfl
theorem turn_BadStep (a : MV) (s0 s1 s2 s3 s4 s5 s6 s7 s8 s9 s10 s13 s14 s15 s16 : Sl) (h : MH) : B_law_2 [s0, s1, s2, s3, s4, s5, s6, s7, s8, s9, s10, .val (.int 12), .val (.er "BadStep" [("index", a)]), s13, s14, s15, s16] h = .ok .nx [s0, s1, s2, s3, s4, s5, s6, s7, s8, s9, s10, .val (.int 12), .val (.er "BadStep" [("index", a)]), .val (.lst [.bl false, .bl false]), s14, s15, s16] h := by
  have hc := hot_ok 12 12 rfl s0 s1 s2 s3 s4 s5 s6 s7 s8 s9 s10 (.val (.er "BadStep" [("index", a)])) s13 s14 s15 s16 (h := h)
  rw [B_law_2_eq]
  simp only [↓hc, cls_BadStep, ne_hot, ne_two, v_neB, Int.reduceLT, Int.reduceGT, k_isR, isR_t, in_NoRow, in_NoPlace, in_NoHandler, in_BadName, in_BadPlace, in_BadSlide, in_NoInverse, in_Twice, in_BadOperation, in_BadCall, in_BadVisit, in_BadLine, in_BadStep, in_BadText, in_BadWorld, in_BadNumber, in_BadSpot, in_BadBound, in_BadKind, in_OtherOperation, in_BadOrder, in_BadPair, in_BadRule, in_BadMend, in_TooMany, in_Clash, in_CallFailed, in_PlaceError, in_MissingError, kin_BadStep, has_BadStep, kx_BadStep_LookupError, kx_BadStep_ValueError, e_fun, finR_rt, finR_nx, finR_exc, fin_raw, finX_raw, List.map_cons, List.map_nil, List.replicate_succ, List.replicate_zero, List.cons_append, List.nil_append, List.append_nil, List.length_cons, List.length_nil, Nat.zero_add, Nat.reduceAdd, Nat.reduceLeDiff, Nat.reduceLT, Nat.zero_lt_succ, Nat.add_one_pos,  String.reduceBEq, v_isiS, v_isiI, v_isiB, v_isiT, v_isiL, isiR_some, tyM, subT,
  e_var, getS_val, e_k, e_nil, e_cons, k_cons1, k_cons1x, k_cons2, k_cons2x, e_tup, k_tup, k_tupx, e_lst, k_lst, k_lstx, e_op, k_op1, k_op1x, k_op2, k_op2x, e_test, asB_ok, asB_x, noX_ok, e_chain, k_ch1, k_ch2, k_ch3t, k_ch3f, e_and, k_andt, k_andf, e_or, k_ort, k_orf, e_not, k_not, e_if, k_ift, k_iff,
  e_tand, k_tandt, k_tandf, e_tor, k_tort, k_torf, e_tnot, k_tnot, e_tru, k_tru, k_trux, onRef_lst, blR_t, truR_some, tru_bl, tru_int, tru_lst, tru_tup, e_cb, k_cb, k_cbx, e_on1, e_on2, e_call, k_call, k_callx, e_neg, k_neg, e_lm, k_lm, k_lm2, k_lm2x, e_sm, k_sm, e_pn, e_ps, k_ps, e_sl, k_sl1, k_sl2, k_sl3, e_rev, k_rev,
  e_errF, e_errIs, k_errF, k_errIs, opR_some, e_seq, seqS_nx, seqS_rt, seqS_bk, seqS_ct, seqS_exc, e_nx, e_bk, e_ct, e_drop, k_drop, k_dropx, e_ret, k_ret, k_retx, e_retN, e_ifS, k_ifSt, k_ifSf, k_ifSx, e_set, k_set, k_setx, e_asg, k_asg, k_asgx, k_asg2, e_par, k_par, e_gn, e_gs0, e_gs1, k_gs, e_gtp, e_sb, k_sb1, k_sb2,
  e_raise, k_raise, e_it, k_it, e_for, k_for, run_nil, run_cons, k_turn, k_turnN, k_turnC, k_turnB, k_turnR, k_turnX, src_str, src_tup, src_lst, src_scr, e_try, k_try, k_tryx, k_catch0, k_catchT, k_catchF, k_goneR,
  v_newT, v_newL, v_newR, v_addI, v_addL, v_addT, v_addRL, v_dif, v_eqS, v_eqI, v_neS, v_neI, v_inT, v_inL, v_niT, v_niL, v_isn, v_is, nonM, v_lenL, v_lenT, v_lenC, v_lenR, v_abs, v_intI, v_intB, v_max, v_min, v_listL, v_listT, v_listR, v_tupL, v_tupT, v_tupR, v_ltI, v_leI, v_gtI, v_geI, v_cutC, v_cutL, v_cutT, v_cutR, v_revL, v_app, v_inR, v_ixL, v_ixT, v_ixC, v_ixR,
  at_lit, at_last, ix_lit, v_mulN, v_mulM, v_mulL0, v_mulL1, Nat.zero_le, v_divN, v_powN, v_mod, sbO_some, v_sb, v_pop0, pop0_cons, Int.reduceLT, Int.reduceLE, Int.reducePow, Int.reduceNeg, Int.reduceAdd, Int.reduceSub, Int.reduceMul, h_last, h_set, fin_app, fin_self, setR_some, set_tup, set_lst, set_ref, setO_lst, Nat.lt_irrefl,
  flatM, inF_nil, inF_cons, eqF, List.all_cons, List.all_nil, List.any_cons, List.any_nil, str_beq, str_lit, String.reduceEq, decide_true, decide_false, decide_eq_true_eq, Bool.and_true, Bool.true_and, Bool.and_false, Bool.false_and, Bool.or_true, Bool.true_or, Bool.or_false, Bool.false_or, Bool.not_true, Bool.not_false, Bool.and_self, Bool.or_self,
  List.getElem?_cons_zero, List.getElem?_cons_succ, List.set_cons_zero, List.set_cons_succ, List.getElem?_nil, if_true, reduceIte, Bool.false_eq_true, belows, below, Nat.le_refl, reduceCtorEq, e_lc, k_lc, k_lc2, e_yes, l_nil, l_cons, k_l1, k_l2t, k_l2f, k_l3, e_r1, k_r1N, e_en, k_enL, k_enT, e_mkE, k_mkE, e_erF, k_erF, e_isE, wipeM]
theorem cls_BadText (a : MV) (h : MH) : F__law_classes [(.er "BadText" [("index", a)])] h = .ok (.lst (hotM 13)) h := by
  unfold F__law_classes
  simp only [k_isR, isR_t, in_NoRow, in_NoPlace, in_NoHandler, in_BadName, in_BadPlace, in_BadSlide, in_NoInverse, in_Twice, in_BadOperation, in_BadCall, in_BadVisit, in_BadLine, in_BadStep, in_BadText, in_BadWorld, in_BadNumber, in_BadSpot, in_BadBound, in_BadKind, in_OtherOperation, in_BadOrder, in_BadPair, in_BadRule, in_BadMend, in_TooMany, in_Clash, in_CallFailed, in_PlaceError, in_MissingError, kin_BadText, has_BadText, kx_BadText_LookupError, kx_BadText_ValueError, e_fun, finR_rt, finR_nx, finR_exc, fin_raw, finX_raw, List.map_cons, List.map_nil, List.replicate_succ, List.replicate_zero, List.cons_append, List.nil_append, List.append_nil, List.length_cons, List.length_nil, Nat.zero_add, Nat.reduceAdd, Nat.reduceLeDiff, Nat.reduceLT, Nat.zero_lt_succ, Nat.add_one_pos,  String.reduceBEq, v_isiS, v_isiI, v_isiB, v_isiT, v_isiL, isiR_some, tyM, subT,
  e_var, getS_val, e_k, e_nil, e_cons, k_cons1, k_cons1x, k_cons2, k_cons2x, e_tup, k_tup, k_tupx, e_lst, k_lst, k_lstx, e_op, k_op1, k_op1x, k_op2, k_op2x, e_test, asB_ok, asB_x, noX_ok, e_chain, k_ch1, k_ch2, k_ch3t, k_ch3f, e_and, k_andt, k_andf, e_or, k_ort, k_orf, e_not, k_not, e_if, k_ift, k_iff,
  e_tand, k_tandt, k_tandf, e_tor, k_tort, k_torf, e_tnot, k_tnot, e_tru, k_tru, k_trux, onRef_lst, blR_t, truR_some, tru_bl, tru_int, tru_lst, tru_tup, e_cb, k_cb, k_cbx, e_on1, e_on2, e_call, k_call, k_callx, e_neg, k_neg, e_lm, k_lm, k_lm2, k_lm2x, e_sm, k_sm, e_pn, e_ps, k_ps, e_sl, k_sl1, k_sl2, k_sl3, e_rev, k_rev,
  e_errF, e_errIs, k_errF, k_errIs, opR_some, e_seq, seqS_nx, seqS_rt, seqS_bk, seqS_ct, seqS_exc, e_nx, e_bk, e_ct, e_drop, k_drop, k_dropx, e_ret, k_ret, k_retx, e_retN, e_ifS, k_ifSt, k_ifSf, k_ifSx, e_set, k_set, k_setx, e_asg, k_asg, k_asgx, k_asg2, e_par, k_par, e_gn, e_gs0, e_gs1, k_gs, e_gtp, e_sb, k_sb1, k_sb2,
  e_raise, k_raise, e_it, k_it, e_for, k_for, run_nil, run_cons, k_turn, k_turnN, k_turnC, k_turnB, k_turnR, k_turnX, src_str, src_tup, src_lst, src_scr, e_try, k_try, k_tryx, k_catch0, k_catchT, k_catchF, k_goneR,
  v_newT, v_newL, v_newR, v_addI, v_addL, v_addT, v_addRL, v_dif, v_eqS, v_eqI, v_neS, v_neI, v_inT, v_inL, v_niT, v_niL, v_isn, v_is, nonM, v_lenL, v_lenT, v_lenC, v_lenR, v_abs, v_intI, v_intB, v_max, v_min, v_listL, v_listT, v_listR, v_tupL, v_tupT, v_tupR, v_ltI, v_leI, v_gtI, v_geI, v_cutC, v_cutL, v_cutT, v_cutR, v_revL, v_app, v_inR, v_ixL, v_ixT, v_ixC, v_ixR,
  at_lit, at_last, ix_lit, v_mulN, v_mulM, v_mulL0, v_mulL1, Nat.zero_le, v_divN, v_powN, v_mod, sbO_some, v_sb, v_pop0, pop0_cons, Int.reduceLT, Int.reduceLE, Int.reducePow, Int.reduceNeg, Int.reduceAdd, Int.reduceSub, Int.reduceMul, h_last, h_set, fin_app, fin_self, setR_some, set_tup, set_lst, set_ref, setO_lst, Nat.lt_irrefl,
  flatM, inF_nil, inF_cons, eqF, List.all_cons, List.all_nil, List.any_cons, List.any_nil, str_beq, str_lit, String.reduceEq, decide_true, decide_false, decide_eq_true_eq, Bool.and_true, Bool.true_and, Bool.and_false, Bool.false_and, Bool.or_true, Bool.true_or, Bool.or_false, Bool.false_or, Bool.not_true, Bool.not_false, Bool.and_self, Bool.or_self,
  List.getElem?_cons_zero, List.getElem?_cons_succ, List.set_cons_zero, List.set_cons_succ, List.getElem?_nil, if_true, reduceIte, Bool.false_eq_true, belows, below, Nat.le_refl, reduceCtorEq, e_lc, k_lc, k_lc2, e_yes, l_nil, l_cons, k_l1, k_l2t, k_l2f, k_l3, e_r1, k_r1N, e_en, k_enL, k_enT, e_mkE, k_mkE, e_erF, k_erF, e_isE, wipeM]
  rfl
theorem turn_BadText (a : MV) (s0 s1 s2 s3 s4 s5 s6 s7 s8 s9 s10 s13 s14 s15 s16 : Sl) (h : MH) : B_law_2 [s0, s1, s2, s3, s4, s5, s6, s7, s8, s9, s10, .val (.int 13), .val (.er "BadText" [("index", a)]), s13, s14, s15, s16] h = .ok .nx [s0, s1, s2, s3, s4, s5, s6, s7, s8, s9, s10, .val (.int 13), .val (.er "BadText" [("index", a)]), .val (.lst [.bl false, .bl false]), s14, s15, s16] h := by
  have hc := hot_ok 13 13 rfl s0 s1 s2 s3 s4 s5 s6 s7 s8 s9 s10 (.val (.er "BadText" [("index", a)])) s13 s14 s15 s16 (h := h)
  rw [B_law_2_eq]
  simp only [↓hc, cls_BadText, ne_hot, ne_two, v_neB, Int.reduceLT, Int.reduceGT, k_isR, isR_t, in_NoRow, in_NoPlace, in_NoHandler, in_BadName, in_BadPlace, in_BadSlide, in_NoInverse, in_Twice, in_BadOperation, in_BadCall, in_BadVisit, in_BadLine, in_BadStep, in_BadText, in_BadWorld, in_BadNumber, in_BadSpot, in_BadBound, in_BadKind, in_OtherOperation, in_BadOrder, in_BadPair, in_BadRule, in_BadMend, in_TooMany, in_Clash, in_CallFailed, in_PlaceError, in_MissingError, kin_BadText, has_BadText, kx_BadText_LookupError, kx_BadText_ValueError, e_fun, finR_rt, finR_nx, finR_exc, fin_raw, finX_raw, List.map_cons, List.map_nil, List.replicate_succ, List.replicate_zero, List.cons_append, List.nil_append, List.append_nil, List.length_cons, List.length_nil, Nat.zero_add, Nat.reduceAdd, Nat.reduceLeDiff, Nat.reduceLT, Nat.zero_lt_succ, Nat.add_one_pos,  String.reduceBEq, v_isiS, v_isiI, v_isiB, v_isiT, v_isiL, isiR_some, tyM, subT,
  e_var, getS_val, e_k, e_nil, e_cons, k_cons1, k_cons1x, k_cons2, k_cons2x, e_tup, k_tup, k_tupx, e_lst, k_lst, k_lstx, e_op, k_op1, k_op1x, k_op2, k_op2x, e_test, asB_ok, asB_x, noX_ok, e_chain, k_ch1, k_ch2, k_ch3t, k_ch3f, e_and, k_andt, k_andf, e_or, k_ort, k_orf, e_not, k_not, e_if, k_ift, k_iff,
  e_tand, k_tandt, k_tandf, e_tor, k_tort, k_torf, e_tnot, k_tnot, e_tru, k_tru, k_trux, onRef_lst, blR_t, truR_some, tru_bl, tru_int, tru_lst, tru_tup, e_cb, k_cb, k_cbx, e_on1, e_on2, e_call, k_call, k_callx, e_neg, k_neg, e_lm, k_lm, k_lm2, k_lm2x, e_sm, k_sm, e_pn, e_ps, k_ps, e_sl, k_sl1, k_sl2, k_sl3, e_rev, k_rev,
  e_errF, e_errIs, k_errF, k_errIs, opR_some, e_seq, seqS_nx, seqS_rt, seqS_bk, seqS_ct, seqS_exc, e_nx, e_bk, e_ct, e_drop, k_drop, k_dropx, e_ret, k_ret, k_retx, e_retN, e_ifS, k_ifSt, k_ifSf, k_ifSx, e_set, k_set, k_setx, e_asg, k_asg, k_asgx, k_asg2, e_par, k_par, e_gn, e_gs0, e_gs1, k_gs, e_gtp, e_sb, k_sb1, k_sb2,
  e_raise, k_raise, e_it, k_it, e_for, k_for, run_nil, run_cons, k_turn, k_turnN, k_turnC, k_turnB, k_turnR, k_turnX, src_str, src_tup, src_lst, src_scr, e_try, k_try, k_tryx, k_catch0, k_catchT, k_catchF, k_goneR,
  v_newT, v_newL, v_newR, v_addI, v_addL, v_addT, v_addRL, v_dif, v_eqS, v_eqI, v_neS, v_neI, v_inT, v_inL, v_niT, v_niL, v_isn, v_is, nonM, v_lenL, v_lenT, v_lenC, v_lenR, v_abs, v_intI, v_intB, v_max, v_min, v_listL, v_listT, v_listR, v_tupL, v_tupT, v_tupR, v_ltI, v_leI, v_gtI, v_geI, v_cutC, v_cutL, v_cutT, v_cutR, v_revL, v_app, v_inR, v_ixL, v_ixT, v_ixC, v_ixR,
  at_lit, at_last, ix_lit, v_mulN, v_mulM, v_mulL0, v_mulL1, Nat.zero_le, v_divN, v_powN, v_mod, sbO_some, v_sb, v_pop0, pop0_cons, Int.reduceLT, Int.reduceLE, Int.reducePow, Int.reduceNeg, Int.reduceAdd, Int.reduceSub, Int.reduceMul, h_last, h_set, fin_app, fin_self, setR_some, set_tup, set_lst, set_ref, setO_lst, Nat.lt_irrefl,
  flatM, inF_nil, inF_cons, eqF, List.all_cons, List.all_nil, List.any_cons, List.any_nil, str_beq, str_lit, String.reduceEq, decide_true, decide_false, decide_eq_true_eq, Bool.and_true, Bool.true_and, Bool.and_false, Bool.false_and, Bool.or_true, Bool.true_or, Bool.or_false, Bool.false_or, Bool.not_true, Bool.not_false, Bool.and_self, Bool.or_self,
  List.getElem?_cons_zero, List.getElem?_cons_succ, List.set_cons_zero, List.set_cons_succ, List.getElem?_nil, if_true, reduceIte, Bool.false_eq_true, belows, below, Nat.le_refl, reduceCtorEq, e_lc, k_lc, k_lc2, e_yes, l_nil, l_cons, k_l1, k_l2t, k_l2f, k_l3, e_r1, k_r1N, e_en, k_enL, k_enT, e_mkE, k_mkE, e_erF, k_erF, e_isE, wipeM]
theorem cls_BadWorld (a : MV) (h : MH) : F__law_classes [(.er "BadWorld" [("world", a)])] h = .ok (.lst (hotM 14)) h := by
  unfold F__law_classes
  simp only [k_isR, isR_t, in_NoRow, in_NoPlace, in_NoHandler, in_BadName, in_BadPlace, in_BadSlide, in_NoInverse, in_Twice, in_BadOperation, in_BadCall, in_BadVisit, in_BadLine, in_BadStep, in_BadText, in_BadWorld, in_BadNumber, in_BadSpot, in_BadBound, in_BadKind, in_OtherOperation, in_BadOrder, in_BadPair, in_BadRule, in_BadMend, in_TooMany, in_Clash, in_CallFailed, in_PlaceError, in_MissingError, kin_BadWorld, has_BadWorld, kx_BadWorld_LookupError, kx_BadWorld_ValueError, e_fun, finR_rt, finR_nx, finR_exc, fin_raw, finX_raw, List.map_cons, List.map_nil, List.replicate_succ, List.replicate_zero, List.cons_append, List.nil_append, List.append_nil, List.length_cons, List.length_nil, Nat.zero_add, Nat.reduceAdd, Nat.reduceLeDiff, Nat.reduceLT, Nat.zero_lt_succ, Nat.add_one_pos,  String.reduceBEq, v_isiS, v_isiI, v_isiB, v_isiT, v_isiL, isiR_some, tyM, subT,
  e_var, getS_val, e_k, e_nil, e_cons, k_cons1, k_cons1x, k_cons2, k_cons2x, e_tup, k_tup, k_tupx, e_lst, k_lst, k_lstx, e_op, k_op1, k_op1x, k_op2, k_op2x, e_test, asB_ok, asB_x, noX_ok, e_chain, k_ch1, k_ch2, k_ch3t, k_ch3f, e_and, k_andt, k_andf, e_or, k_ort, k_orf, e_not, k_not, e_if, k_ift, k_iff,
  e_tand, k_tandt, k_tandf, e_tor, k_tort, k_torf, e_tnot, k_tnot, e_tru, k_tru, k_trux, onRef_lst, blR_t, truR_some, tru_bl, tru_int, tru_lst, tru_tup, e_cb, k_cb, k_cbx, e_on1, e_on2, e_call, k_call, k_callx, e_neg, k_neg, e_lm, k_lm, k_lm2, k_lm2x, e_sm, k_sm, e_pn, e_ps, k_ps, e_sl, k_sl1, k_sl2, k_sl3, e_rev, k_rev,
  e_errF, e_errIs, k_errF, k_errIs, opR_some, e_seq, seqS_nx, seqS_rt, seqS_bk, seqS_ct, seqS_exc, e_nx, e_bk, e_ct, e_drop, k_drop, k_dropx, e_ret, k_ret, k_retx, e_retN, e_ifS, k_ifSt, k_ifSf, k_ifSx, e_set, k_set, k_setx, e_asg, k_asg, k_asgx, k_asg2, e_par, k_par, e_gn, e_gs0, e_gs1, k_gs, e_gtp, e_sb, k_sb1, k_sb2,
  e_raise, k_raise, e_it, k_it, e_for, k_for, run_nil, run_cons, k_turn, k_turnN, k_turnC, k_turnB, k_turnR, k_turnX, src_str, src_tup, src_lst, src_scr, e_try, k_try, k_tryx, k_catch0, k_catchT, k_catchF, k_goneR,
  v_newT, v_newL, v_newR, v_addI, v_addL, v_addT, v_addRL, v_dif, v_eqS, v_eqI, v_neS, v_neI, v_inT, v_inL, v_niT, v_niL, v_isn, v_is, nonM, v_lenL, v_lenT, v_lenC, v_lenR, v_abs, v_intI, v_intB, v_max, v_min, v_listL, v_listT, v_listR, v_tupL, v_tupT, v_tupR, v_ltI, v_leI, v_gtI, v_geI, v_cutC, v_cutL, v_cutT, v_cutR, v_revL, v_app, v_inR, v_ixL, v_ixT, v_ixC, v_ixR,
  at_lit, at_last, ix_lit, v_mulN, v_mulM, v_mulL0, v_mulL1, Nat.zero_le, v_divN, v_powN, v_mod, sbO_some, v_sb, v_pop0, pop0_cons, Int.reduceLT, Int.reduceLE, Int.reducePow, Int.reduceNeg, Int.reduceAdd, Int.reduceSub, Int.reduceMul, h_last, h_set, fin_app, fin_self, setR_some, set_tup, set_lst, set_ref, setO_lst, Nat.lt_irrefl,
  flatM, inF_nil, inF_cons, eqF, List.all_cons, List.all_nil, List.any_cons, List.any_nil, str_beq, str_lit, String.reduceEq, decide_true, decide_false, decide_eq_true_eq, Bool.and_true, Bool.true_and, Bool.and_false, Bool.false_and, Bool.or_true, Bool.true_or, Bool.or_false, Bool.false_or, Bool.not_true, Bool.not_false, Bool.and_self, Bool.or_self,
  List.getElem?_cons_zero, List.getElem?_cons_succ, List.set_cons_zero, List.set_cons_succ, List.getElem?_nil, if_true, reduceIte, Bool.false_eq_true, belows, below, Nat.le_refl, reduceCtorEq, e_lc, k_lc, k_lc2, e_yes, l_nil, l_cons, k_l1, k_l2t, k_l2f, k_l3, e_r1, k_r1N, e_en, k_enL, k_enT, e_mkE, k_mkE, e_erF, k_erF, e_isE, wipeM]
  rfl
theorem turn_BadWorld (a : MV) (s0 s1 s2 s3 s4 s5 s6 s7 s8 s9 s10 s13 s14 s15 s16 : Sl) (h : MH) : B_law_2 [s0, s1, s2, s3, s4, s5, s6, s7, s8, s9, s10, .val (.int 14), .val (.er "BadWorld" [("world", a)]), s13, s14, s15, s16] h = .ok .nx [s0, s1, s2, s3, s4, s5, s6, s7, s8, s9, s10, .val (.int 14), .val (.er "BadWorld" [("world", a)]), .val (.lst [.bl false, .bl false]), s14, s15, s16] h := by
  have hc := hot_ok 14 14 rfl s0 s1 s2 s3 s4 s5 s6 s7 s8 s9 s10 (.val (.er "BadWorld" [("world", a)])) s13 s14 s15 s16 (h := h)
  rw [B_law_2_eq]
  simp only [↓hc, cls_BadWorld, ne_hot, ne_two, v_neB, Int.reduceLT, Int.reduceGT, k_isR, isR_t, in_NoRow, in_NoPlace, in_NoHandler, in_BadName, in_BadPlace, in_BadSlide, in_NoInverse, in_Twice, in_BadOperation, in_BadCall, in_BadVisit, in_BadLine, in_BadStep, in_BadText, in_BadWorld, in_BadNumber, in_BadSpot, in_BadBound, in_BadKind, in_OtherOperation, in_BadOrder, in_BadPair, in_BadRule, in_BadMend, in_TooMany, in_Clash, in_CallFailed, in_PlaceError, in_MissingError, kin_BadWorld, has_BadWorld, kx_BadWorld_LookupError, kx_BadWorld_ValueError, e_fun, finR_rt, finR_nx, finR_exc, fin_raw, finX_raw, List.map_cons, List.map_nil, List.replicate_succ, List.replicate_zero, List.cons_append, List.nil_append, List.append_nil, List.length_cons, List.length_nil, Nat.zero_add, Nat.reduceAdd, Nat.reduceLeDiff, Nat.reduceLT, Nat.zero_lt_succ, Nat.add_one_pos,  String.reduceBEq, v_isiS, v_isiI, v_isiB, v_isiT, v_isiL, isiR_some, tyM, subT,
  e_var, getS_val, e_k, e_nil, e_cons, k_cons1, k_cons1x, k_cons2, k_cons2x, e_tup, k_tup, k_tupx, e_lst, k_lst, k_lstx, e_op, k_op1, k_op1x, k_op2, k_op2x, e_test, asB_ok, asB_x, noX_ok, e_chain, k_ch1, k_ch2, k_ch3t, k_ch3f, e_and, k_andt, k_andf, e_or, k_ort, k_orf, e_not, k_not, e_if, k_ift, k_iff,
  e_tand, k_tandt, k_tandf, e_tor, k_tort, k_torf, e_tnot, k_tnot, e_tru, k_tru, k_trux, onRef_lst, blR_t, truR_some, tru_bl, tru_int, tru_lst, tru_tup, e_cb, k_cb, k_cbx, e_on1, e_on2, e_call, k_call, k_callx, e_neg, k_neg, e_lm, k_lm, k_lm2, k_lm2x, e_sm, k_sm, e_pn, e_ps, k_ps, e_sl, k_sl1, k_sl2, k_sl3, e_rev, k_rev,
  e_errF, e_errIs, k_errF, k_errIs, opR_some, e_seq, seqS_nx, seqS_rt, seqS_bk, seqS_ct, seqS_exc, e_nx, e_bk, e_ct, e_drop, k_drop, k_dropx, e_ret, k_ret, k_retx, e_retN, e_ifS, k_ifSt, k_ifSf, k_ifSx, e_set, k_set, k_setx, e_asg, k_asg, k_asgx, k_asg2, e_par, k_par, e_gn, e_gs0, e_gs1, k_gs, e_gtp, e_sb, k_sb1, k_sb2,
  e_raise, k_raise, e_it, k_it, e_for, k_for, run_nil, run_cons, k_turn, k_turnN, k_turnC, k_turnB, k_turnR, k_turnX, src_str, src_tup, src_lst, src_scr, e_try, k_try, k_tryx, k_catch0, k_catchT, k_catchF, k_goneR,
  v_newT, v_newL, v_newR, v_addI, v_addL, v_addT, v_addRL, v_dif, v_eqS, v_eqI, v_neS, v_neI, v_inT, v_inL, v_niT, v_niL, v_isn, v_is, nonM, v_lenL, v_lenT, v_lenC, v_lenR, v_abs, v_intI, v_intB, v_max, v_min, v_listL, v_listT, v_listR, v_tupL, v_tupT, v_tupR, v_ltI, v_leI, v_gtI, v_geI, v_cutC, v_cutL, v_cutT, v_cutR, v_revL, v_app, v_inR, v_ixL, v_ixT, v_ixC, v_ixR,
  at_lit, at_last, ix_lit, v_mulN, v_mulM, v_mulL0, v_mulL1, Nat.zero_le, v_divN, v_powN, v_mod, sbO_some, v_sb, v_pop0, pop0_cons, Int.reduceLT, Int.reduceLE, Int.reducePow, Int.reduceNeg, Int.reduceAdd, Int.reduceSub, Int.reduceMul, h_last, h_set, fin_app, fin_self, setR_some, set_tup, set_lst, set_ref, setO_lst, Nat.lt_irrefl,
  flatM, inF_nil, inF_cons, eqF, List.all_cons, List.all_nil, List.any_cons, List.any_nil, str_beq, str_lit, String.reduceEq, decide_true, decide_false, decide_eq_true_eq, Bool.and_true, Bool.true_and, Bool.and_false, Bool.false_and, Bool.or_true, Bool.true_or, Bool.or_false, Bool.false_or, Bool.not_true, Bool.not_false, Bool.and_self, Bool.or_self,
  List.getElem?_cons_zero, List.getElem?_cons_succ, List.set_cons_zero, List.set_cons_succ, List.getElem?_nil, if_true, reduceIte, Bool.false_eq_true, belows, below, Nat.le_refl, reduceCtorEq, e_lc, k_lc, k_lc2, e_yes, l_nil, l_cons, k_l1, k_l2t, k_l2f, k_l3, e_r1, k_r1N, e_en, k_enL, k_enT, e_mkE, k_mkE, e_erF, k_erF, e_isE, wipeM]
theorem cls_BadNumber (a : MV) (h : MH) : F__law_classes [(.er "BadNumber" [("name", a)])] h = .ok (.lst (hotM 15)) h := by
  unfold F__law_classes
  simp only [k_isR, isR_t, in_NoRow, in_NoPlace, in_NoHandler, in_BadName, in_BadPlace, in_BadSlide, in_NoInverse, in_Twice, in_BadOperation, in_BadCall, in_BadVisit, in_BadLine, in_BadStep, in_BadText, in_BadWorld, in_BadNumber, in_BadSpot, in_BadBound, in_BadKind, in_OtherOperation, in_BadOrder, in_BadPair, in_BadRule, in_BadMend, in_TooMany, in_Clash, in_CallFailed, in_PlaceError, in_MissingError, kin_BadNumber, has_BadNumber, kx_BadNumber_LookupError, kx_BadNumber_ValueError, e_fun, finR_rt, finR_nx, finR_exc, fin_raw, finX_raw, List.map_cons, List.map_nil, List.replicate_succ, List.replicate_zero, List.cons_append, List.nil_append, List.append_nil, List.length_cons, List.length_nil, Nat.zero_add, Nat.reduceAdd, Nat.reduceLeDiff, Nat.reduceLT, Nat.zero_lt_succ, Nat.add_one_pos,  String.reduceBEq, v_isiS, v_isiI, v_isiB, v_isiT, v_isiL, isiR_some, tyM, subT,
  e_var, getS_val, e_k, e_nil, e_cons, k_cons1, k_cons1x, k_cons2, k_cons2x, e_tup, k_tup, k_tupx, e_lst, k_lst, k_lstx, e_op, k_op1, k_op1x, k_op2, k_op2x, e_test, asB_ok, asB_x, noX_ok, e_chain, k_ch1, k_ch2, k_ch3t, k_ch3f, e_and, k_andt, k_andf, e_or, k_ort, k_orf, e_not, k_not, e_if, k_ift, k_iff,
  e_tand, k_tandt, k_tandf, e_tor, k_tort, k_torf, e_tnot, k_tnot, e_tru, k_tru, k_trux, onRef_lst, blR_t, truR_some, tru_bl, tru_int, tru_lst, tru_tup, e_cb, k_cb, k_cbx, e_on1, e_on2, e_call, k_call, k_callx, e_neg, k_neg, e_lm, k_lm, k_lm2, k_lm2x, e_sm, k_sm, e_pn, e_ps, k_ps, e_sl, k_sl1, k_sl2, k_sl3, e_rev, k_rev,
  e_errF, e_errIs, k_errF, k_errIs, opR_some, e_seq, seqS_nx, seqS_rt, seqS_bk, seqS_ct, seqS_exc, e_nx, e_bk, e_ct, e_drop, k_drop, k_dropx, e_ret, k_ret, k_retx, e_retN, e_ifS, k_ifSt, k_ifSf, k_ifSx, e_set, k_set, k_setx, e_asg, k_asg, k_asgx, k_asg2, e_par, k_par, e_gn, e_gs0, e_gs1, k_gs, e_gtp, e_sb, k_sb1, k_sb2,
  e_raise, k_raise, e_it, k_it, e_for, k_for, run_nil, run_cons, k_turn, k_turnN, k_turnC, k_turnB, k_turnR, k_turnX, src_str, src_tup, src_lst, src_scr, e_try, k_try, k_tryx, k_catch0, k_catchT, k_catchF, k_goneR,
  v_newT, v_newL, v_newR, v_addI, v_addL, v_addT, v_addRL, v_dif, v_eqS, v_eqI, v_neS, v_neI, v_inT, v_inL, v_niT, v_niL, v_isn, v_is, nonM, v_lenL, v_lenT, v_lenC, v_lenR, v_abs, v_intI, v_intB, v_max, v_min, v_listL, v_listT, v_listR, v_tupL, v_tupT, v_tupR, v_ltI, v_leI, v_gtI, v_geI, v_cutC, v_cutL, v_cutT, v_cutR, v_revL, v_app, v_inR, v_ixL, v_ixT, v_ixC, v_ixR,
  at_lit, at_last, ix_lit, v_mulN, v_mulM, v_mulL0, v_mulL1, Nat.zero_le, v_divN, v_powN, v_mod, sbO_some, v_sb, v_pop0, pop0_cons, Int.reduceLT, Int.reduceLE, Int.reducePow, Int.reduceNeg, Int.reduceAdd, Int.reduceSub, Int.reduceMul, h_last, h_set, fin_app, fin_self, setR_some, set_tup, set_lst, set_ref, setO_lst, Nat.lt_irrefl,
  flatM, inF_nil, inF_cons, eqF, List.all_cons, List.all_nil, List.any_cons, List.any_nil, str_beq, str_lit, String.reduceEq, decide_true, decide_false, decide_eq_true_eq, Bool.and_true, Bool.true_and, Bool.and_false, Bool.false_and, Bool.or_true, Bool.true_or, Bool.or_false, Bool.false_or, Bool.not_true, Bool.not_false, Bool.and_self, Bool.or_self,
  List.getElem?_cons_zero, List.getElem?_cons_succ, List.set_cons_zero, List.set_cons_succ, List.getElem?_nil, if_true, reduceIte, Bool.false_eq_true, belows, below, Nat.le_refl, reduceCtorEq, e_lc, k_lc, k_lc2, e_yes, l_nil, l_cons, k_l1, k_l2t, k_l2f, k_l3, e_r1, k_r1N, e_en, k_enL, k_enT, e_mkE, k_mkE, e_erF, k_erF, e_isE, wipeM]
  rfl
theorem turn_BadNumber (a : MV) (s0 s1 s2 s3 s4 s5 s6 s7 s8 s9 s10 s13 s14 s15 s16 : Sl) (h : MH) : B_law_2 [s0, s1, s2, s3, s4, s5, s6, s7, s8, s9, s10, .val (.int 15), .val (.er "BadNumber" [("name", a)]), s13, s14, s15, s16] h = .ok .nx [s0, s1, s2, s3, s4, s5, s6, s7, s8, s9, s10, .val (.int 15), .val (.er "BadNumber" [("name", a)]), .val (.lst [.bl false, .bl false]), s14, s15, s16] h := by
  have hc := hot_ok 15 15 rfl s0 s1 s2 s3 s4 s5 s6 s7 s8 s9 s10 (.val (.er "BadNumber" [("name", a)])) s13 s14 s15 s16 (h := h)
  rw [B_law_2_eq]
  simp only [↓hc, cls_BadNumber, ne_hot, ne_two, v_neB, Int.reduceLT, Int.reduceGT, k_isR, isR_t, in_NoRow, in_NoPlace, in_NoHandler, in_BadName, in_BadPlace, in_BadSlide, in_NoInverse, in_Twice, in_BadOperation, in_BadCall, in_BadVisit, in_BadLine, in_BadStep, in_BadText, in_BadWorld, in_BadNumber, in_BadSpot, in_BadBound, in_BadKind, in_OtherOperation, in_BadOrder, in_BadPair, in_BadRule, in_BadMend, in_TooMany, in_Clash, in_CallFailed, in_PlaceError, in_MissingError, kin_BadNumber, has_BadNumber, kx_BadNumber_LookupError, kx_BadNumber_ValueError, e_fun, finR_rt, finR_nx, finR_exc, fin_raw, finX_raw, List.map_cons, List.map_nil, List.replicate_succ, List.replicate_zero, List.cons_append, List.nil_append, List.append_nil, List.length_cons, List.length_nil, Nat.zero_add, Nat.reduceAdd, Nat.reduceLeDiff, Nat.reduceLT, Nat.zero_lt_succ, Nat.add_one_pos,  String.reduceBEq, v_isiS, v_isiI, v_isiB, v_isiT, v_isiL, isiR_some, tyM, subT,
  e_var, getS_val, e_k, e_nil, e_cons, k_cons1, k_cons1x, k_cons2, k_cons2x, e_tup, k_tup, k_tupx, e_lst, k_lst, k_lstx, e_op, k_op1, k_op1x, k_op2, k_op2x, e_test, asB_ok, asB_x, noX_ok, e_chain, k_ch1, k_ch2, k_ch3t, k_ch3f, e_and, k_andt, k_andf, e_or, k_ort, k_orf, e_not, k_not, e_if, k_ift, k_iff,
  e_tand, k_tandt, k_tandf, e_tor, k_tort, k_torf, e_tnot, k_tnot, e_tru, k_tru, k_trux, onRef_lst, blR_t, truR_some, tru_bl, tru_int, tru_lst, tru_tup, e_cb, k_cb, k_cbx, e_on1, e_on2, e_call, k_call, k_callx, e_neg, k_neg, e_lm, k_lm, k_lm2, k_lm2x, e_sm, k_sm, e_pn, e_ps, k_ps, e_sl, k_sl1, k_sl2, k_sl3, e_rev, k_rev,
  e_errF, e_errIs, k_errF, k_errIs, opR_some, e_seq, seqS_nx, seqS_rt, seqS_bk, seqS_ct, seqS_exc, e_nx, e_bk, e_ct, e_drop, k_drop, k_dropx, e_ret, k_ret, k_retx, e_retN, e_ifS, k_ifSt, k_ifSf, k_ifSx, e_set, k_set, k_setx, e_asg, k_asg, k_asgx, k_asg2, e_par, k_par, e_gn, e_gs0, e_gs1, k_gs, e_gtp, e_sb, k_sb1, k_sb2,
  e_raise, k_raise, e_it, k_it, e_for, k_for, run_nil, run_cons, k_turn, k_turnN, k_turnC, k_turnB, k_turnR, k_turnX, src_str, src_tup, src_lst, src_scr, e_try, k_try, k_tryx, k_catch0, k_catchT, k_catchF, k_goneR,
  v_newT, v_newL, v_newR, v_addI, v_addL, v_addT, v_addRL, v_dif, v_eqS, v_eqI, v_neS, v_neI, v_inT, v_inL, v_niT, v_niL, v_isn, v_is, nonM, v_lenL, v_lenT, v_lenC, v_lenR, v_abs, v_intI, v_intB, v_max, v_min, v_listL, v_listT, v_listR, v_tupL, v_tupT, v_tupR, v_ltI, v_leI, v_gtI, v_geI, v_cutC, v_cutL, v_cutT, v_cutR, v_revL, v_app, v_inR, v_ixL, v_ixT, v_ixC, v_ixR,
  at_lit, at_last, ix_lit, v_mulN, v_mulM, v_mulL0, v_mulL1, Nat.zero_le, v_divN, v_powN, v_mod, sbO_some, v_sb, v_pop0, pop0_cons, Int.reduceLT, Int.reduceLE, Int.reducePow, Int.reduceNeg, Int.reduceAdd, Int.reduceSub, Int.reduceMul, h_last, h_set, fin_app, fin_self, setR_some, set_tup, set_lst, set_ref, setO_lst, Nat.lt_irrefl,
  flatM, inF_nil, inF_cons, eqF, List.all_cons, List.all_nil, List.any_cons, List.any_nil, str_beq, str_lit, String.reduceEq, decide_true, decide_false, decide_eq_true_eq, Bool.and_true, Bool.true_and, Bool.and_false, Bool.false_and, Bool.or_true, Bool.true_or, Bool.or_false, Bool.false_or, Bool.not_true, Bool.not_false, Bool.and_self, Bool.or_self,
  List.getElem?_cons_zero, List.getElem?_cons_succ, List.set_cons_zero, List.set_cons_succ, List.getElem?_nil, if_true, reduceIte, Bool.false_eq_true, belows, below, Nat.le_refl, reduceCtorEq, e_lc, k_lc, k_lc2, e_yes, l_nil, l_cons, k_l1, k_l2t, k_l2f, k_l3, e_r1, k_r1N, e_en, k_enL, k_enT, e_mkE, k_mkE, e_erF, k_erF, e_isE, wipeM]
theorem cls_BadSpot (a : MV) (h : MH) : F__law_classes [(.er "BadSpot" [("spot", a)])] h = .ok (.lst (hotM 16)) h := by
  unfold F__law_classes
  simp only [k_isR, isR_t, in_NoRow, in_NoPlace, in_NoHandler, in_BadName, in_BadPlace, in_BadSlide, in_NoInverse, in_Twice, in_BadOperation, in_BadCall, in_BadVisit, in_BadLine, in_BadStep, in_BadText, in_BadWorld, in_BadNumber, in_BadSpot, in_BadBound, in_BadKind, in_OtherOperation, in_BadOrder, in_BadPair, in_BadRule, in_BadMend, in_TooMany, in_Clash, in_CallFailed, in_PlaceError, in_MissingError, kin_BadSpot, has_BadSpot, kx_BadSpot_LookupError, kx_BadSpot_ValueError, e_fun, finR_rt, finR_nx, finR_exc, fin_raw, finX_raw, List.map_cons, List.map_nil, List.replicate_succ, List.replicate_zero, List.cons_append, List.nil_append, List.append_nil, List.length_cons, List.length_nil, Nat.zero_add, Nat.reduceAdd, Nat.reduceLeDiff, Nat.reduceLT, Nat.zero_lt_succ, Nat.add_one_pos,  String.reduceBEq, v_isiS, v_isiI, v_isiB, v_isiT, v_isiL, isiR_some, tyM, subT,
  e_var, getS_val, e_k, e_nil, e_cons, k_cons1, k_cons1x, k_cons2, k_cons2x, e_tup, k_tup, k_tupx, e_lst, k_lst, k_lstx, e_op, k_op1, k_op1x, k_op2, k_op2x, e_test, asB_ok, asB_x, noX_ok, e_chain, k_ch1, k_ch2, k_ch3t, k_ch3f, e_and, k_andt, k_andf, e_or, k_ort, k_orf, e_not, k_not, e_if, k_ift, k_iff,
  e_tand, k_tandt, k_tandf, e_tor, k_tort, k_torf, e_tnot, k_tnot, e_tru, k_tru, k_trux, onRef_lst, blR_t, truR_some, tru_bl, tru_int, tru_lst, tru_tup, e_cb, k_cb, k_cbx, e_on1, e_on2, e_call, k_call, k_callx, e_neg, k_neg, e_lm, k_lm, k_lm2, k_lm2x, e_sm, k_sm, e_pn, e_ps, k_ps, e_sl, k_sl1, k_sl2, k_sl3, e_rev, k_rev,
  e_errF, e_errIs, k_errF, k_errIs, opR_some, e_seq, seqS_nx, seqS_rt, seqS_bk, seqS_ct, seqS_exc, e_nx, e_bk, e_ct, e_drop, k_drop, k_dropx, e_ret, k_ret, k_retx, e_retN, e_ifS, k_ifSt, k_ifSf, k_ifSx, e_set, k_set, k_setx, e_asg, k_asg, k_asgx, k_asg2, e_par, k_par, e_gn, e_gs0, e_gs1, k_gs, e_gtp, e_sb, k_sb1, k_sb2,
  e_raise, k_raise, e_it, k_it, e_for, k_for, run_nil, run_cons, k_turn, k_turnN, k_turnC, k_turnB, k_turnR, k_turnX, src_str, src_tup, src_lst, src_scr, e_try, k_try, k_tryx, k_catch0, k_catchT, k_catchF, k_goneR,
  v_newT, v_newL, v_newR, v_addI, v_addL, v_addT, v_addRL, v_dif, v_eqS, v_eqI, v_neS, v_neI, v_inT, v_inL, v_niT, v_niL, v_isn, v_is, nonM, v_lenL, v_lenT, v_lenC, v_lenR, v_abs, v_intI, v_intB, v_max, v_min, v_listL, v_listT, v_listR, v_tupL, v_tupT, v_tupR, v_ltI, v_leI, v_gtI, v_geI, v_cutC, v_cutL, v_cutT, v_cutR, v_revL, v_app, v_inR, v_ixL, v_ixT, v_ixC, v_ixR,
  at_lit, at_last, ix_lit, v_mulN, v_mulM, v_mulL0, v_mulL1, Nat.zero_le, v_divN, v_powN, v_mod, sbO_some, v_sb, v_pop0, pop0_cons, Int.reduceLT, Int.reduceLE, Int.reducePow, Int.reduceNeg, Int.reduceAdd, Int.reduceSub, Int.reduceMul, h_last, h_set, fin_app, fin_self, setR_some, set_tup, set_lst, set_ref, setO_lst, Nat.lt_irrefl,
  flatM, inF_nil, inF_cons, eqF, List.all_cons, List.all_nil, List.any_cons, List.any_nil, str_beq, str_lit, String.reduceEq, decide_true, decide_false, decide_eq_true_eq, Bool.and_true, Bool.true_and, Bool.and_false, Bool.false_and, Bool.or_true, Bool.true_or, Bool.or_false, Bool.false_or, Bool.not_true, Bool.not_false, Bool.and_self, Bool.or_self,
  List.getElem?_cons_zero, List.getElem?_cons_succ, List.set_cons_zero, List.set_cons_succ, List.getElem?_nil, if_true, reduceIte, Bool.false_eq_true, belows, below, Nat.le_refl, reduceCtorEq, e_lc, k_lc, k_lc2, e_yes, l_nil, l_cons, k_l1, k_l2t, k_l2f, k_l3, e_r1, k_r1N, e_en, k_enL, k_enT, e_mkE, k_mkE, e_erF, k_erF, e_isE, wipeM]
  rfl
theorem turn_BadSpot (a : MV) (s0 s1 s2 s3 s4 s5 s6 s7 s8 s9 s10 s13 s14 s15 s16 : Sl) (h : MH) : B_law_2 [s0, s1, s2, s3, s4, s5, s6, s7, s8, s9, s10, .val (.int 16), .val (.er "BadSpot" [("spot", a)]), s13, s14, s15, s16] h = .ok .nx [s0, s1, s2, s3, s4, s5, s6, s7, s8, s9, s10, .val (.int 16), .val (.er "BadSpot" [("spot", a)]), .val (.lst [.bl false, .bl false]), s14, s15, s16] h := by
  have hc := hot_ok 16 16 rfl s0 s1 s2 s3 s4 s5 s6 s7 s8 s9 s10 (.val (.er "BadSpot" [("spot", a)])) s13 s14 s15 s16 (h := h)
  rw [B_law_2_eq]
  simp only [↓hc, cls_BadSpot, ne_hot, ne_two, v_neB, Int.reduceLT, Int.reduceGT, k_isR, isR_t, in_NoRow, in_NoPlace, in_NoHandler, in_BadName, in_BadPlace, in_BadSlide, in_NoInverse, in_Twice, in_BadOperation, in_BadCall, in_BadVisit, in_BadLine, in_BadStep, in_BadText, in_BadWorld, in_BadNumber, in_BadSpot, in_BadBound, in_BadKind, in_OtherOperation, in_BadOrder, in_BadPair, in_BadRule, in_BadMend, in_TooMany, in_Clash, in_CallFailed, in_PlaceError, in_MissingError, kin_BadSpot, has_BadSpot, kx_BadSpot_LookupError, kx_BadSpot_ValueError, e_fun, finR_rt, finR_nx, finR_exc, fin_raw, finX_raw, List.map_cons, List.map_nil, List.replicate_succ, List.replicate_zero, List.cons_append, List.nil_append, List.append_nil, List.length_cons, List.length_nil, Nat.zero_add, Nat.reduceAdd, Nat.reduceLeDiff, Nat.reduceLT, Nat.zero_lt_succ, Nat.add_one_pos,  String.reduceBEq, v_isiS, v_isiI, v_isiB, v_isiT, v_isiL, isiR_some, tyM, subT,
  e_var, getS_val, e_k, e_nil, e_cons, k_cons1, k_cons1x, k_cons2, k_cons2x, e_tup, k_tup, k_tupx, e_lst, k_lst, k_lstx, e_op, k_op1, k_op1x, k_op2, k_op2x, e_test, asB_ok, asB_x, noX_ok, e_chain, k_ch1, k_ch2, k_ch3t, k_ch3f, e_and, k_andt, k_andf, e_or, k_ort, k_orf, e_not, k_not, e_if, k_ift, k_iff,
  e_tand, k_tandt, k_tandf, e_tor, k_tort, k_torf, e_tnot, k_tnot, e_tru, k_tru, k_trux, onRef_lst, blR_t, truR_some, tru_bl, tru_int, tru_lst, tru_tup, e_cb, k_cb, k_cbx, e_on1, e_on2, e_call, k_call, k_callx, e_neg, k_neg, e_lm, k_lm, k_lm2, k_lm2x, e_sm, k_sm, e_pn, e_ps, k_ps, e_sl, k_sl1, k_sl2, k_sl3, e_rev, k_rev,
  e_errF, e_errIs, k_errF, k_errIs, opR_some, e_seq, seqS_nx, seqS_rt, seqS_bk, seqS_ct, seqS_exc, e_nx, e_bk, e_ct, e_drop, k_drop, k_dropx, e_ret, k_ret, k_retx, e_retN, e_ifS, k_ifSt, k_ifSf, k_ifSx, e_set, k_set, k_setx, e_asg, k_asg, k_asgx, k_asg2, e_par, k_par, e_gn, e_gs0, e_gs1, k_gs, e_gtp, e_sb, k_sb1, k_sb2,
  e_raise, k_raise, e_it, k_it, e_for, k_for, run_nil, run_cons, k_turn, k_turnN, k_turnC, k_turnB, k_turnR, k_turnX, src_str, src_tup, src_lst, src_scr, e_try, k_try, k_tryx, k_catch0, k_catchT, k_catchF, k_goneR,
  v_newT, v_newL, v_newR, v_addI, v_addL, v_addT, v_addRL, v_dif, v_eqS, v_eqI, v_neS, v_neI, v_inT, v_inL, v_niT, v_niL, v_isn, v_is, nonM, v_lenL, v_lenT, v_lenC, v_lenR, v_abs, v_intI, v_intB, v_max, v_min, v_listL, v_listT, v_listR, v_tupL, v_tupT, v_tupR, v_ltI, v_leI, v_gtI, v_geI, v_cutC, v_cutL, v_cutT, v_cutR, v_revL, v_app, v_inR, v_ixL, v_ixT, v_ixC, v_ixR,
  at_lit, at_last, ix_lit, v_mulN, v_mulM, v_mulL0, v_mulL1, Nat.zero_le, v_divN, v_powN, v_mod, sbO_some, v_sb, v_pop0, pop0_cons, Int.reduceLT, Int.reduceLE, Int.reducePow, Int.reduceNeg, Int.reduceAdd, Int.reduceSub, Int.reduceMul, h_last, h_set, fin_app, fin_self, setR_some, set_tup, set_lst, set_ref, setO_lst, Nat.lt_irrefl,
  flatM, inF_nil, inF_cons, eqF, List.all_cons, List.all_nil, List.any_cons, List.any_nil, str_beq, str_lit, String.reduceEq, decide_true, decide_false, decide_eq_true_eq, Bool.and_true, Bool.true_and, Bool.and_false, Bool.false_and, Bool.or_true, Bool.true_or, Bool.or_false, Bool.false_or, Bool.not_true, Bool.not_false, Bool.and_self, Bool.or_self,
  List.getElem?_cons_zero, List.getElem?_cons_succ, List.set_cons_zero, List.set_cons_succ, List.getElem?_nil, if_true, reduceIte, Bool.false_eq_true, belows, below, Nat.le_refl, reduceCtorEq, e_lc, k_lc, k_lc2, e_yes, l_nil, l_cons, k_l1, k_l2t, k_l2f, k_l3, e_r1, k_r1N, e_en, k_enL, k_enT, e_mkE, k_mkE, e_erF, k_erF, e_isE, wipeM]
theorem cls_BadBound (a : MV) (h : MH) : F__law_classes [(.er "BadBound" [("index", a)])] h = .ok (.lst (hotM 17)) h := by
  unfold F__law_classes
  simp only [k_isR, isR_t, in_NoRow, in_NoPlace, in_NoHandler, in_BadName, in_BadPlace, in_BadSlide, in_NoInverse, in_Twice, in_BadOperation, in_BadCall, in_BadVisit, in_BadLine, in_BadStep, in_BadText, in_BadWorld, in_BadNumber, in_BadSpot, in_BadBound, in_BadKind, in_OtherOperation, in_BadOrder, in_BadPair, in_BadRule, in_BadMend, in_TooMany, in_Clash, in_CallFailed, in_PlaceError, in_MissingError, kin_BadBound, has_BadBound, kx_BadBound_LookupError, kx_BadBound_ValueError, e_fun, finR_rt, finR_nx, finR_exc, fin_raw, finX_raw, List.map_cons, List.map_nil, List.replicate_succ, List.replicate_zero, List.cons_append, List.nil_append, List.append_nil, List.length_cons, List.length_nil, Nat.zero_add, Nat.reduceAdd, Nat.reduceLeDiff, Nat.reduceLT, Nat.zero_lt_succ, Nat.add_one_pos,  String.reduceBEq, v_isiS, v_isiI, v_isiB, v_isiT, v_isiL, isiR_some, tyM, subT,
  e_var, getS_val, e_k, e_nil, e_cons, k_cons1, k_cons1x, k_cons2, k_cons2x, e_tup, k_tup, k_tupx, e_lst, k_lst, k_lstx, e_op, k_op1, k_op1x, k_op2, k_op2x, e_test, asB_ok, asB_x, noX_ok, e_chain, k_ch1, k_ch2, k_ch3t, k_ch3f, e_and, k_andt, k_andf, e_or, k_ort, k_orf, e_not, k_not, e_if, k_ift, k_iff,
  e_tand, k_tandt, k_tandf, e_tor, k_tort, k_torf, e_tnot, k_tnot, e_tru, k_tru, k_trux, onRef_lst, blR_t, truR_some, tru_bl, tru_int, tru_lst, tru_tup, e_cb, k_cb, k_cbx, e_on1, e_on2, e_call, k_call, k_callx, e_neg, k_neg, e_lm, k_lm, k_lm2, k_lm2x, e_sm, k_sm, e_pn, e_ps, k_ps, e_sl, k_sl1, k_sl2, k_sl3, e_rev, k_rev,
  e_errF, e_errIs, k_errF, k_errIs, opR_some, e_seq, seqS_nx, seqS_rt, seqS_bk, seqS_ct, seqS_exc, e_nx, e_bk, e_ct, e_drop, k_drop, k_dropx, e_ret, k_ret, k_retx, e_retN, e_ifS, k_ifSt, k_ifSf, k_ifSx, e_set, k_set, k_setx, e_asg, k_asg, k_asgx, k_asg2, e_par, k_par, e_gn, e_gs0, e_gs1, k_gs, e_gtp, e_sb, k_sb1, k_sb2,
  e_raise, k_raise, e_it, k_it, e_for, k_for, run_nil, run_cons, k_turn, k_turnN, k_turnC, k_turnB, k_turnR, k_turnX, src_str, src_tup, src_lst, src_scr, e_try, k_try, k_tryx, k_catch0, k_catchT, k_catchF, k_goneR,
  v_newT, v_newL, v_newR, v_addI, v_addL, v_addT, v_addRL, v_dif, v_eqS, v_eqI, v_neS, v_neI, v_inT, v_inL, v_niT, v_niL, v_isn, v_is, nonM, v_lenL, v_lenT, v_lenC, v_lenR, v_abs, v_intI, v_intB, v_max, v_min, v_listL, v_listT, v_listR, v_tupL, v_tupT, v_tupR, v_ltI, v_leI, v_gtI, v_geI, v_cutC, v_cutL, v_cutT, v_cutR, v_revL, v_app, v_inR, v_ixL, v_ixT, v_ixC, v_ixR,
  at_lit, at_last, ix_lit, v_mulN, v_mulM, v_mulL0, v_mulL1, Nat.zero_le, v_divN, v_powN, v_mod, sbO_some, v_sb, v_pop0, pop0_cons, Int.reduceLT, Int.reduceLE, Int.reducePow, Int.reduceNeg, Int.reduceAdd, Int.reduceSub, Int.reduceMul, h_last, h_set, fin_app, fin_self, setR_some, set_tup, set_lst, set_ref, setO_lst, Nat.lt_irrefl,
  flatM, inF_nil, inF_cons, eqF, List.all_cons, List.all_nil, List.any_cons, List.any_nil, str_beq, str_lit, String.reduceEq, decide_true, decide_false, decide_eq_true_eq, Bool.and_true, Bool.true_and, Bool.and_false, Bool.false_and, Bool.or_true, Bool.true_or, Bool.or_false, Bool.false_or, Bool.not_true, Bool.not_false, Bool.and_self, Bool.or_self,
  List.getElem?_cons_zero, List.getElem?_cons_succ, List.set_cons_zero, List.set_cons_succ, List.getElem?_nil, if_true, reduceIte, Bool.false_eq_true, belows, below, Nat.le_refl, reduceCtorEq, e_lc, k_lc, k_lc2, e_yes, l_nil, l_cons, k_l1, k_l2t, k_l2f, k_l3, e_r1, k_r1N, e_en, k_enL, k_enT, e_mkE, k_mkE, e_erF, k_erF, e_isE, wipeM]
  rfl
theorem turn_BadBound (a : MV) (s0 s1 s2 s3 s4 s5 s6 s7 s8 s9 s10 s13 s14 s15 s16 : Sl) (h : MH) : B_law_2 [s0, s1, s2, s3, s4, s5, s6, s7, s8, s9, s10, .val (.int 17), .val (.er "BadBound" [("index", a)]), s13, s14, s15, s16] h = .ok .nx [s0, s1, s2, s3, s4, s5, s6, s7, s8, s9, s10, .val (.int 17), .val (.er "BadBound" [("index", a)]), .val (.lst [.bl false, .bl false]), s14, s15, s16] h := by
  have hc := hot_ok 17 17 rfl s0 s1 s2 s3 s4 s5 s6 s7 s8 s9 s10 (.val (.er "BadBound" [("index", a)])) s13 s14 s15 s16 (h := h)
  rw [B_law_2_eq]
  simp only [↓hc, cls_BadBound, ne_hot, ne_two, v_neB, Int.reduceLT, Int.reduceGT, k_isR, isR_t, in_NoRow, in_NoPlace, in_NoHandler, in_BadName, in_BadPlace, in_BadSlide, in_NoInverse, in_Twice, in_BadOperation, in_BadCall, in_BadVisit, in_BadLine, in_BadStep, in_BadText, in_BadWorld, in_BadNumber, in_BadSpot, in_BadBound, in_BadKind, in_OtherOperation, in_BadOrder, in_BadPair, in_BadRule, in_BadMend, in_TooMany, in_Clash, in_CallFailed, in_PlaceError, in_MissingError, kin_BadBound, has_BadBound, kx_BadBound_LookupError, kx_BadBound_ValueError, e_fun, finR_rt, finR_nx, finR_exc, fin_raw, finX_raw, List.map_cons, List.map_nil, List.replicate_succ, List.replicate_zero, List.cons_append, List.nil_append, List.append_nil, List.length_cons, List.length_nil, Nat.zero_add, Nat.reduceAdd, Nat.reduceLeDiff, Nat.reduceLT, Nat.zero_lt_succ, Nat.add_one_pos,  String.reduceBEq, v_isiS, v_isiI, v_isiB, v_isiT, v_isiL, isiR_some, tyM, subT,
  e_var, getS_val, e_k, e_nil, e_cons, k_cons1, k_cons1x, k_cons2, k_cons2x, e_tup, k_tup, k_tupx, e_lst, k_lst, k_lstx, e_op, k_op1, k_op1x, k_op2, k_op2x, e_test, asB_ok, asB_x, noX_ok, e_chain, k_ch1, k_ch2, k_ch3t, k_ch3f, e_and, k_andt, k_andf, e_or, k_ort, k_orf, e_not, k_not, e_if, k_ift, k_iff,
  e_tand, k_tandt, k_tandf, e_tor, k_tort, k_torf, e_tnot, k_tnot, e_tru, k_tru, k_trux, onRef_lst, blR_t, truR_some, tru_bl, tru_int, tru_lst, tru_tup, e_cb, k_cb, k_cbx, e_on1, e_on2, e_call, k_call, k_callx, e_neg, k_neg, e_lm, k_lm, k_lm2, k_lm2x, e_sm, k_sm, e_pn, e_ps, k_ps, e_sl, k_sl1, k_sl2, k_sl3, e_rev, k_rev,
  e_errF, e_errIs, k_errF, k_errIs, opR_some, e_seq, seqS_nx, seqS_rt, seqS_bk, seqS_ct, seqS_exc, e_nx, e_bk, e_ct, e_drop, k_drop, k_dropx, e_ret, k_ret, k_retx, e_retN, e_ifS, k_ifSt, k_ifSf, k_ifSx, e_set, k_set, k_setx, e_asg, k_asg, k_asgx, k_asg2, e_par, k_par, e_gn, e_gs0, e_gs1, k_gs, e_gtp, e_sb, k_sb1, k_sb2,
  e_raise, k_raise, e_it, k_it, e_for, k_for, run_nil, run_cons, k_turn, k_turnN, k_turnC, k_turnB, k_turnR, k_turnX, src_str, src_tup, src_lst, src_scr, e_try, k_try, k_tryx, k_catch0, k_catchT, k_catchF, k_goneR,
  v_newT, v_newL, v_newR, v_addI, v_addL, v_addT, v_addRL, v_dif, v_eqS, v_eqI, v_neS, v_neI, v_inT, v_inL, v_niT, v_niL, v_isn, v_is, nonM, v_lenL, v_lenT, v_lenC, v_lenR, v_abs, v_intI, v_intB, v_max, v_min, v_listL, v_listT, v_listR, v_tupL, v_tupT, v_tupR, v_ltI, v_leI, v_gtI, v_geI, v_cutC, v_cutL, v_cutT, v_cutR, v_revL, v_app, v_inR, v_ixL, v_ixT, v_ixC, v_ixR,
  at_lit, at_last, ix_lit, v_mulN, v_mulM, v_mulL0, v_mulL1, Nat.zero_le, v_divN, v_powN, v_mod, sbO_some, v_sb, v_pop0, pop0_cons, Int.reduceLT, Int.reduceLE, Int.reducePow, Int.reduceNeg, Int.reduceAdd, Int.reduceSub, Int.reduceMul, h_last, h_set, fin_app, fin_self, setR_some, set_tup, set_lst, set_ref, setO_lst, Nat.lt_irrefl,
  flatM, inF_nil, inF_cons, eqF, List.all_cons, List.all_nil, List.any_cons, List.any_nil, str_beq, str_lit, String.reduceEq, decide_true, decide_false, decide_eq_true_eq, Bool.and_true, Bool.true_and, Bool.and_false, Bool.false_and, Bool.or_true, Bool.true_or, Bool.or_false, Bool.false_or, Bool.not_true, Bool.not_false, Bool.and_self, Bool.or_self,
  List.getElem?_cons_zero, List.getElem?_cons_succ, List.set_cons_zero, List.set_cons_succ, List.getElem?_nil, if_true, reduceIte, Bool.false_eq_true, belows, below, Nat.le_refl, reduceCtorEq, e_lc, k_lc, k_lc2, e_yes, l_nil, l_cons, k_l1, k_l2t, k_l2f, k_l3, e_r1, k_r1N, e_en, k_enL, k_enT, e_mkE, k_mkE, e_erF, k_erF, e_isE, wipeM]
theorem cls_BadKind (a : MV) (h : MH) : F__law_classes [(.er "BadKind" [("kind", a)])] h = .ok (.lst (hotM 18)) h := by
  unfold F__law_classes
  simp only [k_isR, isR_t, in_NoRow, in_NoPlace, in_NoHandler, in_BadName, in_BadPlace, in_BadSlide, in_NoInverse, in_Twice, in_BadOperation, in_BadCall, in_BadVisit, in_BadLine, in_BadStep, in_BadText, in_BadWorld, in_BadNumber, in_BadSpot, in_BadBound, in_BadKind, in_OtherOperation, in_BadOrder, in_BadPair, in_BadRule, in_BadMend, in_TooMany, in_Clash, in_CallFailed, in_PlaceError, in_MissingError, kin_BadKind, has_BadKind, kx_BadKind_LookupError, kx_BadKind_ValueError, e_fun, finR_rt, finR_nx, finR_exc, fin_raw, finX_raw, List.map_cons, List.map_nil, List.replicate_succ, List.replicate_zero, List.cons_append, List.nil_append, List.append_nil, List.length_cons, List.length_nil, Nat.zero_add, Nat.reduceAdd, Nat.reduceLeDiff, Nat.reduceLT, Nat.zero_lt_succ, Nat.add_one_pos,  String.reduceBEq, v_isiS, v_isiI, v_isiB, v_isiT, v_isiL, isiR_some, tyM, subT,
  e_var, getS_val, e_k, e_nil, e_cons, k_cons1, k_cons1x, k_cons2, k_cons2x, e_tup, k_tup, k_tupx, e_lst, k_lst, k_lstx, e_op, k_op1, k_op1x, k_op2, k_op2x, e_test, asB_ok, asB_x, noX_ok, e_chain, k_ch1, k_ch2, k_ch3t, k_ch3f, e_and, k_andt, k_andf, e_or, k_ort, k_orf, e_not, k_not, e_if, k_ift, k_iff,
  e_tand, k_tandt, k_tandf, e_tor, k_tort, k_torf, e_tnot, k_tnot, e_tru, k_tru, k_trux, onRef_lst, blR_t, truR_some, tru_bl, tru_int, tru_lst, tru_tup, e_cb, k_cb, k_cbx, e_on1, e_on2, e_call, k_call, k_callx, e_neg, k_neg, e_lm, k_lm, k_lm2, k_lm2x, e_sm, k_sm, e_pn, e_ps, k_ps, e_sl, k_sl1, k_sl2, k_sl3, e_rev, k_rev,
  e_errF, e_errIs, k_errF, k_errIs, opR_some, e_seq, seqS_nx, seqS_rt, seqS_bk, seqS_ct, seqS_exc, e_nx, e_bk, e_ct, e_drop, k_drop, k_dropx, e_ret, k_ret, k_retx, e_retN, e_ifS, k_ifSt, k_ifSf, k_ifSx, e_set, k_set, k_setx, e_asg, k_asg, k_asgx, k_asg2, e_par, k_par, e_gn, e_gs0, e_gs1, k_gs, e_gtp, e_sb, k_sb1, k_sb2,
  e_raise, k_raise, e_it, k_it, e_for, k_for, run_nil, run_cons, k_turn, k_turnN, k_turnC, k_turnB, k_turnR, k_turnX, src_str, src_tup, src_lst, src_scr, e_try, k_try, k_tryx, k_catch0, k_catchT, k_catchF, k_goneR,
  v_newT, v_newL, v_newR, v_addI, v_addL, v_addT, v_addRL, v_dif, v_eqS, v_eqI, v_neS, v_neI, v_inT, v_inL, v_niT, v_niL, v_isn, v_is, nonM, v_lenL, v_lenT, v_lenC, v_lenR, v_abs, v_intI, v_intB, v_max, v_min, v_listL, v_listT, v_listR, v_tupL, v_tupT, v_tupR, v_ltI, v_leI, v_gtI, v_geI, v_cutC, v_cutL, v_cutT, v_cutR, v_revL, v_app, v_inR, v_ixL, v_ixT, v_ixC, v_ixR,
  at_lit, at_last, ix_lit, v_mulN, v_mulM, v_mulL0, v_mulL1, Nat.zero_le, v_divN, v_powN, v_mod, sbO_some, v_sb, v_pop0, pop0_cons, Int.reduceLT, Int.reduceLE, Int.reducePow, Int.reduceNeg, Int.reduceAdd, Int.reduceSub, Int.reduceMul, h_last, h_set, fin_app, fin_self, setR_some, set_tup, set_lst, set_ref, setO_lst, Nat.lt_irrefl,
  flatM, inF_nil, inF_cons, eqF, List.all_cons, List.all_nil, List.any_cons, List.any_nil, str_beq, str_lit, String.reduceEq, decide_true, decide_false, decide_eq_true_eq, Bool.and_true, Bool.true_and, Bool.and_false, Bool.false_and, Bool.or_true, Bool.true_or, Bool.or_false, Bool.false_or, Bool.not_true, Bool.not_false, Bool.and_self, Bool.or_self,
  List.getElem?_cons_zero, List.getElem?_cons_succ, List.set_cons_zero, List.set_cons_succ, List.getElem?_nil, if_true, reduceIte, Bool.false_eq_true, belows, below, Nat.le_refl, reduceCtorEq, e_lc, k_lc, k_lc2, e_yes, l_nil, l_cons, k_l1, k_l2t, k_l2f, k_l3, e_r1, k_r1N, e_en, k_enL, k_enT, e_mkE, k_mkE, e_erF, k_erF, e_isE, wipeM]
  rfl
theorem turn_BadKind (a : MV) (s0 s1 s2 s3 s4 s5 s6 s7 s8 s9 s10 s13 s14 s15 s16 : Sl) (h : MH) : B_law_2 [s0, s1, s2, s3, s4, s5, s6, s7, s8, s9, s10, .val (.int 18), .val (.er "BadKind" [("kind", a)]), s13, s14, s15, s16] h = .ok .nx [s0, s1, s2, s3, s4, s5, s6, s7, s8, s9, s10, .val (.int 18), .val (.er "BadKind" [("kind", a)]), .val (.lst [.bl false, .bl false]), s14, s15, s16] h := by
  have hc := hot_ok 18 18 rfl s0 s1 s2 s3 s4 s5 s6 s7 s8 s9 s10 (.val (.er "BadKind" [("kind", a)])) s13 s14 s15 s16 (h := h)
  rw [B_law_2_eq]
  simp only [↓hc, cls_BadKind, ne_hot, ne_two, v_neB, Int.reduceLT, Int.reduceGT, k_isR, isR_t, in_NoRow, in_NoPlace, in_NoHandler, in_BadName, in_BadPlace, in_BadSlide, in_NoInverse, in_Twice, in_BadOperation, in_BadCall, in_BadVisit, in_BadLine, in_BadStep, in_BadText, in_BadWorld, in_BadNumber, in_BadSpot, in_BadBound, in_BadKind, in_OtherOperation, in_BadOrder, in_BadPair, in_BadRule, in_BadMend, in_TooMany, in_Clash, in_CallFailed, in_PlaceError, in_MissingError, kin_BadKind, has_BadKind, kx_BadKind_LookupError, kx_BadKind_ValueError, e_fun, finR_rt, finR_nx, finR_exc, fin_raw, finX_raw, List.map_cons, List.map_nil, List.replicate_succ, List.replicate_zero, List.cons_append, List.nil_append, List.append_nil, List.length_cons, List.length_nil, Nat.zero_add, Nat.reduceAdd, Nat.reduceLeDiff, Nat.reduceLT, Nat.zero_lt_succ, Nat.add_one_pos,  String.reduceBEq, v_isiS, v_isiI, v_isiB, v_isiT, v_isiL, isiR_some, tyM, subT,
  e_var, getS_val, e_k, e_nil, e_cons, k_cons1, k_cons1x, k_cons2, k_cons2x, e_tup, k_tup, k_tupx, e_lst, k_lst, k_lstx, e_op, k_op1, k_op1x, k_op2, k_op2x, e_test, asB_ok, asB_x, noX_ok, e_chain, k_ch1, k_ch2, k_ch3t, k_ch3f, e_and, k_andt, k_andf, e_or, k_ort, k_orf, e_not, k_not, e_if, k_ift, k_iff,
  e_tand, k_tandt, k_tandf, e_tor, k_tort, k_torf, e_tnot, k_tnot, e_tru, k_tru, k_trux, onRef_lst, blR_t, truR_some, tru_bl, tru_int, tru_lst, tru_tup, e_cb, k_cb, k_cbx, e_on1, e_on2, e_call, k_call, k_callx, e_neg, k_neg, e_lm, k_lm, k_lm2, k_lm2x, e_sm, k_sm, e_pn, e_ps, k_ps, e_sl, k_sl1, k_sl2, k_sl3, e_rev, k_rev,
  e_errF, e_errIs, k_errF, k_errIs, opR_some, e_seq, seqS_nx, seqS_rt, seqS_bk, seqS_ct, seqS_exc, e_nx, e_bk, e_ct, e_drop, k_drop, k_dropx, e_ret, k_ret, k_retx, e_retN, e_ifS, k_ifSt, k_ifSf, k_ifSx, e_set, k_set, k_setx, e_asg, k_asg, k_asgx, k_asg2, e_par, k_par, e_gn, e_gs0, e_gs1, k_gs, e_gtp, e_sb, k_sb1, k_sb2,
  e_raise, k_raise, e_it, k_it, e_for, k_for, run_nil, run_cons, k_turn, k_turnN, k_turnC, k_turnB, k_turnR, k_turnX, src_str, src_tup, src_lst, src_scr, e_try, k_try, k_tryx, k_catch0, k_catchT, k_catchF, k_goneR,
  v_newT, v_newL, v_newR, v_addI, v_addL, v_addT, v_addRL, v_dif, v_eqS, v_eqI, v_neS, v_neI, v_inT, v_inL, v_niT, v_niL, v_isn, v_is, nonM, v_lenL, v_lenT, v_lenC, v_lenR, v_abs, v_intI, v_intB, v_max, v_min, v_listL, v_listT, v_listR, v_tupL, v_tupT, v_tupR, v_ltI, v_leI, v_gtI, v_geI, v_cutC, v_cutL, v_cutT, v_cutR, v_revL, v_app, v_inR, v_ixL, v_ixT, v_ixC, v_ixR,
  at_lit, at_last, ix_lit, v_mulN, v_mulM, v_mulL0, v_mulL1, Nat.zero_le, v_divN, v_powN, v_mod, sbO_some, v_sb, v_pop0, pop0_cons, Int.reduceLT, Int.reduceLE, Int.reducePow, Int.reduceNeg, Int.reduceAdd, Int.reduceSub, Int.reduceMul, h_last, h_set, fin_app, fin_self, setR_some, set_tup, set_lst, set_ref, setO_lst, Nat.lt_irrefl,
  flatM, inF_nil, inF_cons, eqF, List.all_cons, List.all_nil, List.any_cons, List.any_nil, str_beq, str_lit, String.reduceEq, decide_true, decide_false, decide_eq_true_eq, Bool.and_true, Bool.true_and, Bool.and_false, Bool.false_and, Bool.or_true, Bool.true_or, Bool.or_false, Bool.false_or, Bool.not_true, Bool.not_false, Bool.and_self, Bool.or_self,
  List.getElem?_cons_zero, List.getElem?_cons_succ, List.set_cons_zero, List.set_cons_succ, List.getElem?_nil, if_true, reduceIte, Bool.false_eq_true, belows, below, Nat.le_refl, reduceCtorEq, e_lc, k_lc, k_lc2, e_yes, l_nil, l_cons, k_l1, k_l2t, k_l2f, k_l3, e_r1, k_r1N, e_en, k_enL, k_enT, e_mkE, k_mkE, e_erF, k_erF, e_isE, wipeM]
theorem cls_OtherOperation (a : MV) (h : MH) : F__law_classes [(.er "OtherOperation" [("op", a)])] h = .ok (.lst (hotM 19)) h := by
  unfold F__law_classes
  simp only [k_isR, isR_t, in_NoRow, in_NoPlace, in_NoHandler, in_BadName, in_BadPlace, in_BadSlide, in_NoInverse, in_Twice, in_BadOperation, in_BadCall, in_BadVisit, in_BadLine, in_BadStep, in_BadText, in_BadWorld, in_BadNumber, in_BadSpot, in_BadBound, in_BadKind, in_OtherOperation, in_BadOrder, in_BadPair, in_BadRule, in_BadMend, in_TooMany, in_Clash, in_CallFailed, in_PlaceError, in_MissingError, kin_OtherOperation, has_OtherOperation, kx_OtherOperation_LookupError, kx_OtherOperation_ValueError, e_fun, finR_rt, finR_nx, finR_exc, fin_raw, finX_raw, List.map_cons, List.map_nil, List.replicate_succ, List.replicate_zero, List.cons_append, List.nil_append, List.append_nil, List.length_cons, List.length_nil, Nat.zero_add, Nat.reduceAdd, Nat.reduceLeDiff, Nat.reduceLT, Nat.zero_lt_succ, Nat.add_one_pos,  String.reduceBEq, v_isiS, v_isiI, v_isiB, v_isiT, v_isiL, isiR_some, tyM, subT,
  e_var, getS_val, e_k, e_nil, e_cons, k_cons1, k_cons1x, k_cons2, k_cons2x, e_tup, k_tup, k_tupx, e_lst, k_lst, k_lstx, e_op, k_op1, k_op1x, k_op2, k_op2x, e_test, asB_ok, asB_x, noX_ok, e_chain, k_ch1, k_ch2, k_ch3t, k_ch3f, e_and, k_andt, k_andf, e_or, k_ort, k_orf, e_not, k_not, e_if, k_ift, k_iff,
  e_tand, k_tandt, k_tandf, e_tor, k_tort, k_torf, e_tnot, k_tnot, e_tru, k_tru, k_trux, onRef_lst, blR_t, truR_some, tru_bl, tru_int, tru_lst, tru_tup, e_cb, k_cb, k_cbx, e_on1, e_on2, e_call, k_call, k_callx, e_neg, k_neg, e_lm, k_lm, k_lm2, k_lm2x, e_sm, k_sm, e_pn, e_ps, k_ps, e_sl, k_sl1, k_sl2, k_sl3, e_rev, k_rev,
  e_errF, e_errIs, k_errF, k_errIs, opR_some, e_seq, seqS_nx, seqS_rt, seqS_bk, seqS_ct, seqS_exc, e_nx, e_bk, e_ct, e_drop, k_drop, k_dropx, e_ret, k_ret, k_retx, e_retN, e_ifS, k_ifSt, k_ifSf, k_ifSx, e_set, k_set, k_setx, e_asg, k_asg, k_asgx, k_asg2, e_par, k_par, e_gn, e_gs0, e_gs1, k_gs, e_gtp, e_sb, k_sb1, k_sb2,
  e_raise, k_raise, e_it, k_it, e_for, k_for, run_nil, run_cons, k_turn, k_turnN, k_turnC, k_turnB, k_turnR, k_turnX, src_str, src_tup, src_lst, src_scr, e_try, k_try, k_tryx, k_catch0, k_catchT, k_catchF, k_goneR,
  v_newT, v_newL, v_newR, v_addI, v_addL, v_addT, v_addRL, v_dif, v_eqS, v_eqI, v_neS, v_neI, v_inT, v_inL, v_niT, v_niL, v_isn, v_is, nonM, v_lenL, v_lenT, v_lenC, v_lenR, v_abs, v_intI, v_intB, v_max, v_min, v_listL, v_listT, v_listR, v_tupL, v_tupT, v_tupR, v_ltI, v_leI, v_gtI, v_geI, v_cutC, v_cutL, v_cutT, v_cutR, v_revL, v_app, v_inR, v_ixL, v_ixT, v_ixC, v_ixR,
  at_lit, at_last, ix_lit, v_mulN, v_mulM, v_mulL0, v_mulL1, Nat.zero_le, v_divN, v_powN, v_mod, sbO_some, v_sb, v_pop0, pop0_cons, Int.reduceLT, Int.reduceLE, Int.reducePow, Int.reduceNeg, Int.reduceAdd, Int.reduceSub, Int.reduceMul, h_last, h_set, fin_app, fin_self, setR_some, set_tup, set_lst, set_ref, setO_lst, Nat.lt_irrefl,
  flatM, inF_nil, inF_cons, eqF, List.all_cons, List.all_nil, List.any_cons, List.any_nil, str_beq, str_lit, String.reduceEq, decide_true, decide_false, decide_eq_true_eq, Bool.and_true, Bool.true_and, Bool.and_false, Bool.false_and, Bool.or_true, Bool.true_or, Bool.or_false, Bool.false_or, Bool.not_true, Bool.not_false, Bool.and_self, Bool.or_self,
  List.getElem?_cons_zero, List.getElem?_cons_succ, List.set_cons_zero, List.set_cons_succ, List.getElem?_nil, if_true, reduceIte, Bool.false_eq_true, belows, below, Nat.le_refl, reduceCtorEq, e_lc, k_lc, k_lc2, e_yes, l_nil, l_cons, k_l1, k_l2t, k_l2f, k_l3, e_r1, k_r1N, e_en, k_enL, k_enT, e_mkE, k_mkE, e_erF, k_erF, e_isE, wipeM]
  rfl
theorem turn_OtherOperation (a : MV) (s0 s1 s2 s3 s4 s5 s6 s7 s8 s9 s10 s13 s14 s15 s16 : Sl) (h : MH) : B_law_2 [s0, s1, s2, s3, s4, s5, s6, s7, s8, s9, s10, .val (.int 19), .val (.er "OtherOperation" [("op", a)]), s13, s14, s15, s16] h = .ok .nx [s0, s1, s2, s3, s4, s5, s6, s7, s8, s9, s10, .val (.int 19), .val (.er "OtherOperation" [("op", a)]), .val (.lst [.bl false, .bl false]), s14, s15, s16] h := by
  have hc := hot_ok 19 19 rfl s0 s1 s2 s3 s4 s5 s6 s7 s8 s9 s10 (.val (.er "OtherOperation" [("op", a)])) s13 s14 s15 s16 (h := h)
  rw [B_law_2_eq]
  simp only [↓hc, cls_OtherOperation, ne_hot, ne_two, v_neB, Int.reduceLT, Int.reduceGT, k_isR, isR_t, in_NoRow, in_NoPlace, in_NoHandler, in_BadName, in_BadPlace, in_BadSlide, in_NoInverse, in_Twice, in_BadOperation, in_BadCall, in_BadVisit, in_BadLine, in_BadStep, in_BadText, in_BadWorld, in_BadNumber, in_BadSpot, in_BadBound, in_BadKind, in_OtherOperation, in_BadOrder, in_BadPair, in_BadRule, in_BadMend, in_TooMany, in_Clash, in_CallFailed, in_PlaceError, in_MissingError, kin_OtherOperation, has_OtherOperation, kx_OtherOperation_LookupError, kx_OtherOperation_ValueError, e_fun, finR_rt, finR_nx, finR_exc, fin_raw, finX_raw, List.map_cons, List.map_nil, List.replicate_succ, List.replicate_zero, List.cons_append, List.nil_append, List.append_nil, List.length_cons, List.length_nil, Nat.zero_add, Nat.reduceAdd, Nat.reduceLeDiff, Nat.reduceLT, Nat.zero_lt_succ, Nat.add_one_pos,  String.reduceBEq, v_isiS, v_isiI, v_isiB, v_isiT, v_isiL, isiR_some, tyM, subT,
  e_var, getS_val, e_k, e_nil, e_cons, k_cons1, k_cons1x, k_cons2, k_cons2x, e_tup, k_tup, k_tupx, e_lst, k_lst, k_lstx, e_op, k_op1, k_op1x, k_op2, k_op2x, e_test, asB_ok, asB_x, noX_ok, e_chain, k_ch1, k_ch2, k_ch3t, k_ch3f, e_and, k_andt, k_andf, e_or, k_ort, k_orf, e_not, k_not, e_if, k_ift, k_iff,
  e_tand, k_tandt, k_tandf, e_tor, k_tort, k_torf, e_tnot, k_tnot, e_tru, k_tru, k_trux, onRef_lst, blR_t, truR_some, tru_bl, tru_int, tru_lst, tru_tup, e_cb, k_cb, k_cbx, e_on1, e_on2, e_call, k_call, k_callx, e_neg, k_neg, e_lm, k_lm, k_lm2, k_lm2x, e_sm, k_sm, e_pn, e_ps, k_ps, e_sl, k_sl1, k_sl2, k_sl3, e_rev, k_rev,
  e_errF, e_errIs, k_errF, k_errIs, opR_some, e_seq, seqS_nx, seqS_rt, seqS_bk, seqS_ct, seqS_exc, e_nx, e_bk, e_ct, e_drop, k_drop, k_dropx, e_ret, k_ret, k_retx, e_retN, e_ifS, k_ifSt, k_ifSf, k_ifSx, e_set, k_set, k_setx, e_asg, k_asg, k_asgx, k_asg2, e_par, k_par, e_gn, e_gs0, e_gs1, k_gs, e_gtp, e_sb, k_sb1, k_sb2,
  e_raise, k_raise, e_it, k_it, e_for, k_for, run_nil, run_cons, k_turn, k_turnN, k_turnC, k_turnB, k_turnR, k_turnX, src_str, src_tup, src_lst, src_scr, e_try, k_try, k_tryx, k_catch0, k_catchT, k_catchF, k_goneR,
  v_newT, v_newL, v_newR, v_addI, v_addL, v_addT, v_addRL, v_dif, v_eqS, v_eqI, v_neS, v_neI, v_inT, v_inL, v_niT, v_niL, v_isn, v_is, nonM, v_lenL, v_lenT, v_lenC, v_lenR, v_abs, v_intI, v_intB, v_max, v_min, v_listL, v_listT, v_listR, v_tupL, v_tupT, v_tupR, v_ltI, v_leI, v_gtI, v_geI, v_cutC, v_cutL, v_cutT, v_cutR, v_revL, v_app, v_inR, v_ixL, v_ixT, v_ixC, v_ixR,
  at_lit, at_last, ix_lit, v_mulN, v_mulM, v_mulL0, v_mulL1, Nat.zero_le, v_divN, v_powN, v_mod, sbO_some, v_sb, v_pop0, pop0_cons, Int.reduceLT, Int.reduceLE, Int.reducePow, Int.reduceNeg, Int.reduceAdd, Int.reduceSub, Int.reduceMul, h_last, h_set, fin_app, fin_self, setR_some, set_tup, set_lst, set_ref, setO_lst, Nat.lt_irrefl,
  flatM, inF_nil, inF_cons, eqF, List.all_cons, List.all_nil, List.any_cons, List.any_nil, str_beq, str_lit, String.reduceEq, decide_true, decide_false, decide_eq_true_eq, Bool.and_true, Bool.true_and, Bool.and_false, Bool.false_and, Bool.or_true, Bool.true_or, Bool.or_false, Bool.false_or, Bool.not_true, Bool.not_false, Bool.and_self, Bool.or_self,
  List.getElem?_cons_zero, List.getElem?_cons_succ, List.set_cons_zero, List.set_cons_succ, List.getElem?_nil, if_true, reduceIte, Bool.false_eq_true, belows, below, Nat.le_refl, reduceCtorEq, e_lc, k_lc, k_lc2, e_yes, l_nil, l_cons, k_l1, k_l2t, k_l2f, k_l3, e_r1, k_r1N, e_en, k_enL, k_enT, e_mkE, k_mkE, e_erF, k_erF, e_isE, wipeM]
theorem cls_BadOrder (a : MV) (h : MH) : F__law_classes [(.er "BadOrder" [("order", a)])] h = .ok (.lst (hotM 20)) h := by
  unfold F__law_classes
  simp only [k_isR, isR_t, in_NoRow, in_NoPlace, in_NoHandler, in_BadName, in_BadPlace, in_BadSlide, in_NoInverse, in_Twice, in_BadOperation, in_BadCall, in_BadVisit, in_BadLine, in_BadStep, in_BadText, in_BadWorld, in_BadNumber, in_BadSpot, in_BadBound, in_BadKind, in_OtherOperation, in_BadOrder, in_BadPair, in_BadRule, in_BadMend, in_TooMany, in_Clash, in_CallFailed, in_PlaceError, in_MissingError, kin_BadOrder, has_BadOrder, kx_BadOrder_LookupError, kx_BadOrder_ValueError, e_fun, finR_rt, finR_nx, finR_exc, fin_raw, finX_raw, List.map_cons, List.map_nil, List.replicate_succ, List.replicate_zero, List.cons_append, List.nil_append, List.append_nil, List.length_cons, List.length_nil, Nat.zero_add, Nat.reduceAdd, Nat.reduceLeDiff, Nat.reduceLT, Nat.zero_lt_succ, Nat.add_one_pos,  String.reduceBEq, v_isiS, v_isiI, v_isiB, v_isiT, v_isiL, isiR_some, tyM, subT,
  e_var, getS_val, e_k, e_nil, e_cons, k_cons1, k_cons1x, k_cons2, k_cons2x, e_tup, k_tup, k_tupx, e_lst, k_lst, k_lstx, e_op, k_op1, k_op1x, k_op2, k_op2x, e_test, asB_ok, asB_x, noX_ok, e_chain, k_ch1, k_ch2, k_ch3t, k_ch3f, e_and, k_andt, k_andf, e_or, k_ort, k_orf, e_not, k_not, e_if, k_ift, k_iff,
  e_tand, k_tandt, k_tandf, e_tor, k_tort, k_torf, e_tnot, k_tnot, e_tru, k_tru, k_trux, onRef_lst, blR_t, truR_some, tru_bl, tru_int, tru_lst, tru_tup, e_cb, k_cb, k_cbx, e_on1, e_on2, e_call, k_call, k_callx, e_neg, k_neg, e_lm, k_lm, k_lm2, k_lm2x, e_sm, k_sm, e_pn, e_ps, k_ps, e_sl, k_sl1, k_sl2, k_sl3, e_rev, k_rev,
  e_errF, e_errIs, k_errF, k_errIs, opR_some, e_seq, seqS_nx, seqS_rt, seqS_bk, seqS_ct, seqS_exc, e_nx, e_bk, e_ct, e_drop, k_drop, k_dropx, e_ret, k_ret, k_retx, e_retN, e_ifS, k_ifSt, k_ifSf, k_ifSx, e_set, k_set, k_setx, e_asg, k_asg, k_asgx, k_asg2, e_par, k_par, e_gn, e_gs0, e_gs1, k_gs, e_gtp, e_sb, k_sb1, k_sb2,
  e_raise, k_raise, e_it, k_it, e_for, k_for, run_nil, run_cons, k_turn, k_turnN, k_turnC, k_turnB, k_turnR, k_turnX, src_str, src_tup, src_lst, src_scr, e_try, k_try, k_tryx, k_catch0, k_catchT, k_catchF, k_goneR,
  v_newT, v_newL, v_newR, v_addI, v_addL, v_addT, v_addRL, v_dif, v_eqS, v_eqI, v_neS, v_neI, v_inT, v_inL, v_niT, v_niL, v_isn, v_is, nonM, v_lenL, v_lenT, v_lenC, v_lenR, v_abs, v_intI, v_intB, v_max, v_min, v_listL, v_listT, v_listR, v_tupL, v_tupT, v_tupR, v_ltI, v_leI, v_gtI, v_geI, v_cutC, v_cutL, v_cutT, v_cutR, v_revL, v_app, v_inR, v_ixL, v_ixT, v_ixC, v_ixR,
  at_lit, at_last, ix_lit, v_mulN, v_mulM, v_mulL0, v_mulL1, Nat.zero_le, v_divN, v_powN, v_mod, sbO_some, v_sb, v_pop0, pop0_cons, Int.reduceLT, Int.reduceLE, Int.reducePow, Int.reduceNeg, Int.reduceAdd, Int.reduceSub, Int.reduceMul, h_last, h_set, fin_app, fin_self, setR_some, set_tup, set_lst, set_ref, setO_lst, Nat.lt_irrefl,
  flatM, inF_nil, inF_cons, eqF, List.all_cons, List.all_nil, List.any_cons, List.any_nil, str_beq, str_lit, String.reduceEq, decide_true, decide_false, decide_eq_true_eq, Bool.and_true, Bool.true_and, Bool.and_false, Bool.false_and, Bool.or_true, Bool.true_or, Bool.or_false, Bool.false_or, Bool.not_true, Bool.not_false, Bool.and_self, Bool.or_self,
  List.getElem?_cons_zero, List.getElem?_cons_succ, List.set_cons_zero, List.set_cons_succ, List.getElem?_nil, if_true, reduceIte, Bool.false_eq_true, belows, below, Nat.le_refl, reduceCtorEq, e_lc, k_lc, k_lc2, e_yes, l_nil, l_cons, k_l1, k_l2t, k_l2f, k_l3, e_r1, k_r1N, e_en, k_enL, k_enT, e_mkE, k_mkE, e_erF, k_erF, e_isE, wipeM]
  rfl
theorem turn_BadOrder (a : MV) (s0 s1 s2 s3 s4 s5 s6 s7 s8 s9 s10 s13 s14 s15 s16 : Sl) (h : MH) : B_law_2 [s0, s1, s2, s3, s4, s5, s6, s7, s8, s9, s10, .val (.int 20), .val (.er "BadOrder" [("order", a)]), s13, s14, s15, s16] h = .ok .nx [s0, s1, s2, s3, s4, s5, s6, s7, s8, s9, s10, .val (.int 20), .val (.er "BadOrder" [("order", a)]), .val (.lst [.bl false, .bl false]), s14, s15, s16] h := by
  have hc := hot_ok 20 20 rfl s0 s1 s2 s3 s4 s5 s6 s7 s8 s9 s10 (.val (.er "BadOrder" [("order", a)])) s13 s14 s15 s16 (h := h)
  rw [B_law_2_eq]
  simp only [↓hc, cls_BadOrder, ne_hot, ne_two, v_neB, Int.reduceLT, Int.reduceGT, k_isR, isR_t, in_NoRow, in_NoPlace, in_NoHandler, in_BadName, in_BadPlace, in_BadSlide, in_NoInverse, in_Twice, in_BadOperation, in_BadCall, in_BadVisit, in_BadLine, in_BadStep, in_BadText, in_BadWorld, in_BadNumber, in_BadSpot, in_BadBound, in_BadKind, in_OtherOperation, in_BadOrder, in_BadPair, in_BadRule, in_BadMend, in_TooMany, in_Clash, in_CallFailed, in_PlaceError, in_MissingError, kin_BadOrder, has_BadOrder, kx_BadOrder_LookupError, kx_BadOrder_ValueError, e_fun, finR_rt, finR_nx, finR_exc, fin_raw, finX_raw, List.map_cons, List.map_nil, List.replicate_succ, List.replicate_zero, List.cons_append, List.nil_append, List.append_nil, List.length_cons, List.length_nil, Nat.zero_add, Nat.reduceAdd, Nat.reduceLeDiff, Nat.reduceLT, Nat.zero_lt_succ, Nat.add_one_pos,  String.reduceBEq, v_isiS, v_isiI, v_isiB, v_isiT, v_isiL, isiR_some, tyM, subT,
  e_var, getS_val, e_k, e_nil, e_cons, k_cons1, k_cons1x, k_cons2, k_cons2x, e_tup, k_tup, k_tupx, e_lst, k_lst, k_lstx, e_op, k_op1, k_op1x, k_op2, k_op2x, e_test, asB_ok, asB_x, noX_ok, e_chain, k_ch1, k_ch2, k_ch3t, k_ch3f, e_and, k_andt, k_andf, e_or, k_ort, k_orf, e_not, k_not, e_if, k_ift, k_iff,
  e_tand, k_tandt, k_tandf, e_tor, k_tort, k_torf, e_tnot, k_tnot, e_tru, k_tru, k_trux, onRef_lst, blR_t, truR_some, tru_bl, tru_int, tru_lst, tru_tup, e_cb, k_cb, k_cbx, e_on1, e_on2, e_call, k_call, k_callx, e_neg, k_neg, e_lm, k_lm, k_lm2, k_lm2x, e_sm, k_sm, e_pn, e_ps, k_ps, e_sl, k_sl1, k_sl2, k_sl3, e_rev, k_rev,
  e_errF, e_errIs, k_errF, k_errIs, opR_some, e_seq, seqS_nx, seqS_rt, seqS_bk, seqS_ct, seqS_exc, e_nx, e_bk, e_ct, e_drop, k_drop, k_dropx, e_ret, k_ret, k_retx, e_retN, e_ifS, k_ifSt, k_ifSf, k_ifSx, e_set, k_set, k_setx, e_asg, k_asg, k_asgx, k_asg2, e_par, k_par, e_gn, e_gs0, e_gs1, k_gs, e_gtp, e_sb, k_sb1, k_sb2,
  e_raise, k_raise, e_it, k_it, e_for, k_for, run_nil, run_cons, k_turn, k_turnN, k_turnC, k_turnB, k_turnR, k_turnX, src_str, src_tup, src_lst, src_scr, e_try, k_try, k_tryx, k_catch0, k_catchT, k_catchF, k_goneR,
  v_newT, v_newL, v_newR, v_addI, v_addL, v_addT, v_addRL, v_dif, v_eqS, v_eqI, v_neS, v_neI, v_inT, v_inL, v_niT, v_niL, v_isn, v_is, nonM, v_lenL, v_lenT, v_lenC, v_lenR, v_abs, v_intI, v_intB, v_max, v_min, v_listL, v_listT, v_listR, v_tupL, v_tupT, v_tupR, v_ltI, v_leI, v_gtI, v_geI, v_cutC, v_cutL, v_cutT, v_cutR, v_revL, v_app, v_inR, v_ixL, v_ixT, v_ixC, v_ixR,
  at_lit, at_last, ix_lit, v_mulN, v_mulM, v_mulL0, v_mulL1, Nat.zero_le, v_divN, v_powN, v_mod, sbO_some, v_sb, v_pop0, pop0_cons, Int.reduceLT, Int.reduceLE, Int.reducePow, Int.reduceNeg, Int.reduceAdd, Int.reduceSub, Int.reduceMul, h_last, h_set, fin_app, fin_self, setR_some, set_tup, set_lst, set_ref, setO_lst, Nat.lt_irrefl,
  flatM, inF_nil, inF_cons, eqF, List.all_cons, List.all_nil, List.any_cons, List.any_nil, str_beq, str_lit, String.reduceEq, decide_true, decide_false, decide_eq_true_eq, Bool.and_true, Bool.true_and, Bool.and_false, Bool.false_and, Bool.or_true, Bool.true_or, Bool.or_false, Bool.false_or, Bool.not_true, Bool.not_false, Bool.and_self, Bool.or_self,
  List.getElem?_cons_zero, List.getElem?_cons_succ, List.set_cons_zero, List.set_cons_succ, List.getElem?_nil, if_true, reduceIte, Bool.false_eq_true, belows, below, Nat.le_refl, reduceCtorEq, e_lc, k_lc, k_lc2, e_yes, l_nil, l_cons, k_l1, k_l2t, k_l2f, k_l3, e_r1, k_r1N, e_en, k_enL, k_enT, e_mkE, k_mkE, e_erF, k_erF, e_isE, wipeM]
theorem cls_BadPair (a b : MV) (h : MH) : F__law_classes [(.er "BadPair" [("first", a), ("second", b)])] h = .ok (.lst (hotM 21)) h := by
  unfold F__law_classes
  simp only [k_isR, isR_t, in_NoRow, in_NoPlace, in_NoHandler, in_BadName, in_BadPlace, in_BadSlide, in_NoInverse, in_Twice, in_BadOperation, in_BadCall, in_BadVisit, in_BadLine, in_BadStep, in_BadText, in_BadWorld, in_BadNumber, in_BadSpot, in_BadBound, in_BadKind, in_OtherOperation, in_BadOrder, in_BadPair, in_BadRule, in_BadMend, in_TooMany, in_Clash, in_CallFailed, in_PlaceError, in_MissingError, kin_BadPair, has_BadPair, kx_BadPair_LookupError, kx_BadPair_ValueError, e_fun, finR_rt, finR_nx, finR_exc, fin_raw, finX_raw, List.map_cons, List.map_nil, List.replicate_succ, List.replicate_zero, List.cons_append, List.nil_append, List.append_nil, List.length_cons, List.length_nil, Nat.zero_add, Nat.reduceAdd, Nat.reduceLeDiff, Nat.reduceLT, Nat.zero_lt_succ, Nat.add_one_pos,  String.reduceBEq, v_isiS, v_isiI, v_isiB, v_isiT, v_isiL, isiR_some, tyM, subT,
  e_var, getS_val, e_k, e_nil, e_cons, k_cons1, k_cons1x, k_cons2, k_cons2x, e_tup, k_tup, k_tupx, e_lst, k_lst, k_lstx, e_op, k_op1, k_op1x, k_op2, k_op2x, e_test, asB_ok, asB_x, noX_ok, e_chain, k_ch1, k_ch2, k_ch3t, k_ch3f, e_and, k_andt, k_andf, e_or, k_ort, k_orf, e_not, k_not, e_if, k_ift, k_iff,
  e_tand, k_tandt, k_tandf, e_tor, k_tort, k_torf, e_tnot, k_tnot, e_tru, k_tru, k_trux, onRef_lst, blR_t, truR_some, tru_bl, tru_int, tru_lst, tru_tup, e_cb, k_cb, k_cbx, e_on1, e_on2, e_call, k_call, k_callx, e_neg, k_neg, e_lm, k_lm, k_lm2, k_lm2x, e_sm, k_sm, e_pn, e_ps, k_ps, e_sl, k_sl1, k_sl2, k_sl3, e_rev, k_rev,
  e_errF, e_errIs, k_errF, k_errIs, opR_some, e_seq, seqS_nx, seqS_rt, seqS_bk, seqS_ct, seqS_exc, e_nx, e_bk, e_ct, e_drop, k_drop, k_dropx, e_ret, k_ret, k_retx, e_retN, e_ifS, k_ifSt, k_ifSf, k_ifSx, e_set, k_set, k_setx, e_asg, k_asg, k_asgx, k_asg2, e_par, k_par, e_gn, e_gs0, e_gs1, k_gs, e_gtp, e_sb, k_sb1, k_sb2,
  e_raise, k_raise, e_it, k_it, e_for, k_for, run_nil, run_cons, k_turn, k_turnN, k_turnC, k_turnB, k_turnR, k_turnX, src_str, src_tup, src_lst, src_scr, e_try, k_try, k_tryx, k_catch0, k_catchT, k_catchF, k_goneR,
  v_newT, v_newL, v_newR, v_addI, v_addL, v_addT, v_addRL, v_dif, v_eqS, v_eqI, v_neS, v_neI, v_inT, v_inL, v_niT, v_niL, v_isn, v_is, nonM, v_lenL, v_lenT, v_lenC, v_lenR, v_abs, v_intI, v_intB, v_max, v_min, v_listL, v_listT, v_listR, v_tupL, v_tupT, v_tupR, v_ltI, v_leI, v_gtI, v_geI, v_cutC, v_cutL, v_cutT, v_cutR, v_revL, v_app, v_inR, v_ixL, v_ixT, v_ixC, v_ixR,
  at_lit, at_last, ix_lit, v_mulN, v_mulM, v_mulL0, v_mulL1, Nat.zero_le, v_divN, v_powN, v_mod, sbO_some, v_sb, v_pop0, pop0_cons, Int.reduceLT, Int.reduceLE, Int.reducePow, Int.reduceNeg, Int.reduceAdd, Int.reduceSub, Int.reduceMul, h_last, h_set, fin_app, fin_self, setR_some, set_tup, set_lst, set_ref, setO_lst, Nat.lt_irrefl,
  flatM, inF_nil, inF_cons, eqF, List.all_cons, List.all_nil, List.any_cons, List.any_nil, str_beq, str_lit, String.reduceEq, decide_true, decide_false, decide_eq_true_eq, Bool.and_true, Bool.true_and, Bool.and_false, Bool.false_and, Bool.or_true, Bool.true_or, Bool.or_false, Bool.false_or, Bool.not_true, Bool.not_false, Bool.and_self, Bool.or_self,
  List.getElem?_cons_zero, List.getElem?_cons_succ, List.set_cons_zero, List.set_cons_succ, List.getElem?_nil, if_true, reduceIte, Bool.false_eq_true, belows, below, Nat.le_refl, reduceCtorEq, e_lc, k_lc, k_lc2, e_yes, l_nil, l_cons, k_l1, k_l2t, k_l2f, k_l3, e_r1, k_r1N, e_en, k_enL, k_enT, e_mkE, k_mkE, e_erF, k_erF, e_isE, wipeM]
  rfl
theorem turn_BadPair (a b : MV) (s0 s1 s2 s3 s4 s5 s6 s7 s8 s9 s10 s13 s14 s15 s16 : Sl) (h : MH) : B_law_2 [s0, s1, s2, s3, s4, s5, s6, s7, s8, s9, s10, .val (.int 21), .val (.er "BadPair" [("first", a), ("second", b)]), s13, s14, s15, s16] h = .ok .nx [s0, s1, s2, s3, s4, s5, s6, s7, s8, s9, s10, .val (.int 21), .val (.er "BadPair" [("first", a), ("second", b)]), .val (.lst [.bl false, .bl false]), s14, s15, s16] h := by
  have hc := hot_ok 21 21 rfl s0 s1 s2 s3 s4 s5 s6 s7 s8 s9 s10 (.val (.er "BadPair" [("first", a), ("second", b)])) s13 s14 s15 s16 (h := h)
  rw [B_law_2_eq]
  simp only [↓hc, cls_BadPair, ne_hot, ne_two, v_neB, Int.reduceLT, Int.reduceGT, k_isR, isR_t, in_NoRow, in_NoPlace, in_NoHandler, in_BadName, in_BadPlace, in_BadSlide, in_NoInverse, in_Twice, in_BadOperation, in_BadCall, in_BadVisit, in_BadLine, in_BadStep, in_BadText, in_BadWorld, in_BadNumber, in_BadSpot, in_BadBound, in_BadKind, in_OtherOperation, in_BadOrder, in_BadPair, in_BadRule, in_BadMend, in_TooMany, in_Clash, in_CallFailed, in_PlaceError, in_MissingError, kin_BadPair, has_BadPair, kx_BadPair_LookupError, kx_BadPair_ValueError, e_fun, finR_rt, finR_nx, finR_exc, fin_raw, finX_raw, List.map_cons, List.map_nil, List.replicate_succ, List.replicate_zero, List.cons_append, List.nil_append, List.append_nil, List.length_cons, List.length_nil, Nat.zero_add, Nat.reduceAdd, Nat.reduceLeDiff, Nat.reduceLT, Nat.zero_lt_succ, Nat.add_one_pos,  String.reduceBEq, v_isiS, v_isiI, v_isiB, v_isiT, v_isiL, isiR_some, tyM, subT,
  e_var, getS_val, e_k, e_nil, e_cons, k_cons1, k_cons1x, k_cons2, k_cons2x, e_tup, k_tup, k_tupx, e_lst, k_lst, k_lstx, e_op, k_op1, k_op1x, k_op2, k_op2x, e_test, asB_ok, asB_x, noX_ok, e_chain, k_ch1, k_ch2, k_ch3t, k_ch3f, e_and, k_andt, k_andf, e_or, k_ort, k_orf, e_not, k_not, e_if, k_ift, k_iff,
  e_tand, k_tandt, k_tandf, e_tor, k_tort, k_torf, e_tnot, k_tnot, e_tru, k_tru, k_trux, onRef_lst, blR_t, truR_some, tru_bl, tru_int, tru_lst, tru_tup, e_cb, k_cb, k_cbx, e_on1, e_on2, e_call, k_call, k_callx, e_neg, k_neg, e_lm, k_lm, k_lm2, k_lm2x, e_sm, k_sm, e_pn, e_ps, k_ps, e_sl, k_sl1, k_sl2, k_sl3, e_rev, k_rev,
  e_errF, e_errIs, k_errF, k_errIs, opR_some, e_seq, seqS_nx, seqS_rt, seqS_bk, seqS_ct, seqS_exc, e_nx, e_bk, e_ct, e_drop, k_drop, k_dropx, e_ret, k_ret, k_retx, e_retN, e_ifS, k_ifSt, k_ifSf, k_ifSx, e_set, k_set, k_setx, e_asg, k_asg, k_asgx, k_asg2, e_par, k_par, e_gn, e_gs0, e_gs1, k_gs, e_gtp, e_sb, k_sb1, k_sb2,
  e_raise, k_raise, e_it, k_it, e_for, k_for, run_nil, run_cons, k_turn, k_turnN, k_turnC, k_turnB, k_turnR, k_turnX, src_str, src_tup, src_lst, src_scr, e_try, k_try, k_tryx, k_catch0, k_catchT, k_catchF, k_goneR,
  v_newT, v_newL, v_newR, v_addI, v_addL, v_addT, v_addRL, v_dif, v_eqS, v_eqI, v_neS, v_neI, v_inT, v_inL, v_niT, v_niL, v_isn, v_is, nonM, v_lenL, v_lenT, v_lenC, v_lenR, v_abs, v_intI, v_intB, v_max, v_min, v_listL, v_listT, v_listR, v_tupL, v_tupT, v_tupR, v_ltI, v_leI, v_gtI, v_geI, v_cutC, v_cutL, v_cutT, v_cutR, v_revL, v_app, v_inR, v_ixL, v_ixT, v_ixC, v_ixR,
  at_lit, at_last, ix_lit, v_mulN, v_mulM, v_mulL0, v_mulL1, Nat.zero_le, v_divN, v_powN, v_mod, sbO_some, v_sb, v_pop0, pop0_cons, Int.reduceLT, Int.reduceLE, Int.reducePow, Int.reduceNeg, Int.reduceAdd, Int.reduceSub, Int.reduceMul, h_last, h_set, fin_app, fin_self, setR_some, set_tup, set_lst, set_ref, setO_lst, Nat.lt_irrefl,
  flatM, inF_nil, inF_cons, eqF, List.all_cons, List.all_nil, List.any_cons, List.any_nil, str_beq, str_lit, String.reduceEq, decide_true, decide_false, decide_eq_true_eq, Bool.and_true, Bool.true_and, Bool.and_false, Bool.false_and, Bool.or_true, Bool.true_or, Bool.or_false, Bool.false_or, Bool.not_true, Bool.not_false, Bool.and_self, Bool.or_self,
  List.getElem?_cons_zero, List.getElem?_cons_succ, List.set_cons_zero, List.set_cons_succ, List.getElem?_nil, if_true, reduceIte, Bool.false_eq_true, belows, below, Nat.le_refl, reduceCtorEq, e_lc, k_lc, k_lc2, e_yes, l_nil, l_cons, k_l1, k_l2t, k_l2f, k_l3, e_r1, k_r1N, e_en, k_enL, k_enT, e_mkE, k_mkE, e_erF, k_erF, e_isE, wipeM]
theorem cls_BadRule (a : MV) (h : MH) : F__law_classes [(.er "BadRule" [("rule", a)])] h = .ok (.lst (hotM 22)) h := by
  unfold F__law_classes
  simp only [k_isR, isR_t, in_NoRow, in_NoPlace, in_NoHandler, in_BadName, in_BadPlace, in_BadSlide, in_NoInverse, in_Twice, in_BadOperation, in_BadCall, in_BadVisit, in_BadLine, in_BadStep, in_BadText, in_BadWorld, in_BadNumber, in_BadSpot, in_BadBound, in_BadKind, in_OtherOperation, in_BadOrder, in_BadPair, in_BadRule, in_BadMend, in_TooMany, in_Clash, in_CallFailed, in_PlaceError, in_MissingError, kin_BadRule, has_BadRule, kx_BadRule_LookupError, kx_BadRule_ValueError, e_fun, finR_rt, finR_nx, finR_exc, fin_raw, finX_raw, List.map_cons, List.map_nil, List.replicate_succ, List.replicate_zero, List.cons_append, List.nil_append, List.append_nil, List.length_cons, List.length_nil, Nat.zero_add, Nat.reduceAdd, Nat.reduceLeDiff, Nat.reduceLT, Nat.zero_lt_succ, Nat.add_one_pos,  String.reduceBEq, v_isiS, v_isiI, v_isiB, v_isiT, v_isiL, isiR_some, tyM, subT,
  e_var, getS_val, e_k, e_nil, e_cons, k_cons1, k_cons1x, k_cons2, k_cons2x, e_tup, k_tup, k_tupx, e_lst, k_lst, k_lstx, e_op, k_op1, k_op1x, k_op2, k_op2x, e_test, asB_ok, asB_x, noX_ok, e_chain, k_ch1, k_ch2, k_ch3t, k_ch3f, e_and, k_andt, k_andf, e_or, k_ort, k_orf, e_not, k_not, e_if, k_ift, k_iff,
  e_tand, k_tandt, k_tandf, e_tor, k_tort, k_torf, e_tnot, k_tnot, e_tru, k_tru, k_trux, onRef_lst, blR_t, truR_some, tru_bl, tru_int, tru_lst, tru_tup, e_cb, k_cb, k_cbx, e_on1, e_on2, e_call, k_call, k_callx, e_neg, k_neg, e_lm, k_lm, k_lm2, k_lm2x, e_sm, k_sm, e_pn, e_ps, k_ps, e_sl, k_sl1, k_sl2, k_sl3, e_rev, k_rev,
  e_errF, e_errIs, k_errF, k_errIs, opR_some, e_seq, seqS_nx, seqS_rt, seqS_bk, seqS_ct, seqS_exc, e_nx, e_bk, e_ct, e_drop, k_drop, k_dropx, e_ret, k_ret, k_retx, e_retN, e_ifS, k_ifSt, k_ifSf, k_ifSx, e_set, k_set, k_setx, e_asg, k_asg, k_asgx, k_asg2, e_par, k_par, e_gn, e_gs0, e_gs1, k_gs, e_gtp, e_sb, k_sb1, k_sb2,
  e_raise, k_raise, e_it, k_it, e_for, k_for, run_nil, run_cons, k_turn, k_turnN, k_turnC, k_turnB, k_turnR, k_turnX, src_str, src_tup, src_lst, src_scr, e_try, k_try, k_tryx, k_catch0, k_catchT, k_catchF, k_goneR,
  v_newT, v_newL, v_newR, v_addI, v_addL, v_addT, v_addRL, v_dif, v_eqS, v_eqI, v_neS, v_neI, v_inT, v_inL, v_niT, v_niL, v_isn, v_is, nonM, v_lenL, v_lenT, v_lenC, v_lenR, v_abs, v_intI, v_intB, v_max, v_min, v_listL, v_listT, v_listR, v_tupL, v_tupT, v_tupR, v_ltI, v_leI, v_gtI, v_geI, v_cutC, v_cutL, v_cutT, v_cutR, v_revL, v_app, v_inR, v_ixL, v_ixT, v_ixC, v_ixR,
  at_lit, at_last, ix_lit, v_mulN, v_mulM, v_mulL0, v_mulL1, Nat.zero_le, v_divN, v_powN, v_mod, sbO_some, v_sb, v_pop0, pop0_cons, Int.reduceLT, Int.reduceLE, Int.reducePow, Int.reduceNeg, Int.reduceAdd, Int.reduceSub, Int.reduceMul, h_last, h_set, fin_app, fin_self, setR_some, set_tup, set_lst, set_ref, setO_lst, Nat.lt_irrefl,
  flatM, inF_nil, inF_cons, eqF, List.all_cons, List.all_nil, List.any_cons, List.any_nil, str_beq, str_lit, String.reduceEq, decide_true, decide_false, decide_eq_true_eq, Bool.and_true, Bool.true_and, Bool.and_false, Bool.false_and, Bool.or_true, Bool.true_or, Bool.or_false, Bool.false_or, Bool.not_true, Bool.not_false, Bool.and_self, Bool.or_self,
  List.getElem?_cons_zero, List.getElem?_cons_succ, List.set_cons_zero, List.set_cons_succ, List.getElem?_nil, if_true, reduceIte, Bool.false_eq_true, belows, below, Nat.le_refl, reduceCtorEq, e_lc, k_lc, k_lc2, e_yes, l_nil, l_cons, k_l1, k_l2t, k_l2f, k_l3, e_r1, k_r1N, e_en, k_enL, k_enT, e_mkE, k_mkE, e_erF, k_erF, e_isE, wipeM]
  rfl
theorem turn_BadRule (a : MV) (s0 s1 s2 s3 s4 s5 s6 s7 s8 s9 s10 s13 s14 s15 s16 : Sl) (h : MH) : B_law_2 [s0, s1, s2, s3, s4, s5, s6, s7, s8, s9, s10, .val (.int 22), .val (.er "BadRule" [("rule", a)]), s13, s14, s15, s16] h = .ok .nx [s0, s1, s2, s3, s4, s5, s6, s7, s8, s9, s10, .val (.int 22), .val (.er "BadRule" [("rule", a)]), .val (.lst [.bl false, .bl false]), s14, s15, s16] h := by
  have hc := hot_ok 22 22 rfl s0 s1 s2 s3 s4 s5 s6 s7 s8 s9 s10 (.val (.er "BadRule" [("rule", a)])) s13 s14 s15 s16 (h := h)
  rw [B_law_2_eq]
  simp only [↓hc, cls_BadRule, ne_hot, ne_two, v_neB, Int.reduceLT, Int.reduceGT, k_isR, isR_t, in_NoRow, in_NoPlace, in_NoHandler, in_BadName, in_BadPlace, in_BadSlide, in_NoInverse, in_Twice, in_BadOperation, in_BadCall, in_BadVisit, in_BadLine, in_BadStep, in_BadText, in_BadWorld, in_BadNumber, in_BadSpot, in_BadBound, in_BadKind, in_OtherOperation, in_BadOrder, in_BadPair, in_BadRule, in_BadMend, in_TooMany, in_Clash, in_CallFailed, in_PlaceError, in_MissingError, kin_BadRule, has_BadRule, kx_BadRule_LookupError, kx_BadRule_ValueError, e_fun, finR_rt, finR_nx, finR_exc, fin_raw, finX_raw, List.map_cons, List.map_nil, List.replicate_succ, List.replicate_zero, List.cons_append, List.nil_append, List.append_nil, List.length_cons, List.length_nil, Nat.zero_add, Nat.reduceAdd, Nat.reduceLeDiff, Nat.reduceLT, Nat.zero_lt_succ, Nat.add_one_pos,  String.reduceBEq, v_isiS, v_isiI, v_isiB, v_isiT, v_isiL, isiR_some, tyM, subT,
  e_var, getS_val, e_k, e_nil, e_cons, k_cons1, k_cons1x, k_cons2, k_cons2x, e_tup, k_tup, k_tupx, e_lst, k_lst, k_lstx, e_op, k_op1, k_op1x, k_op2, k_op2x, e_test, asB_ok, asB_x, noX_ok, e_chain, k_ch1, k_ch2, k_ch3t, k_ch3f, e_and, k_andt, k_andf, e_or, k_ort, k_orf, e_not, k_not, e_if, k_ift, k_iff,
  e_tand, k_tandt, k_tandf, e_tor, k_tort, k_torf, e_tnot, k_tnot, e_tru, k_tru, k_trux, onRef_lst, blR_t, truR_some, tru_bl, tru_int, tru_lst, tru_tup, e_cb, k_cb, k_cbx, e_on1, e_on2, e_call, k_call, k_callx, e_neg, k_neg, e_lm, k_lm, k_lm2, k_lm2x, e_sm, k_sm, e_pn, e_ps, k_ps, e_sl, k_sl1, k_sl2, k_sl3, e_rev, k_rev,
  e_errF, e_errIs, k_errF, k_errIs, opR_some, e_seq, seqS_nx, seqS_rt, seqS_bk, seqS_ct, seqS_exc, e_nx, e_bk, e_ct, e_drop, k_drop, k_dropx, e_ret, k_ret, k_retx, e_retN, e_ifS, k_ifSt, k_ifSf, k_ifSx, e_set, k_set, k_setx, e_asg, k_asg, k_asgx, k_asg2, e_par, k_par, e_gn, e_gs0, e_gs1, k_gs, e_gtp, e_sb, k_sb1, k_sb2,
  e_raise, k_raise, e_it, k_it, e_for, k_for, run_nil, run_cons, k_turn, k_turnN, k_turnC, k_turnB, k_turnR, k_turnX, src_str, src_tup, src_lst, src_scr, e_try, k_try, k_tryx, k_catch0, k_catchT, k_catchF, k_goneR,
  v_newT, v_newL, v_newR, v_addI, v_addL, v_addT, v_addRL, v_dif, v_eqS, v_eqI, v_neS, v_neI, v_inT, v_inL, v_niT, v_niL, v_isn, v_is, nonM, v_lenL, v_lenT, v_lenC, v_lenR, v_abs, v_intI, v_intB, v_max, v_min, v_listL, v_listT, v_listR, v_tupL, v_tupT, v_tupR, v_ltI, v_leI, v_gtI, v_geI, v_cutC, v_cutL, v_cutT, v_cutR, v_revL, v_app, v_inR, v_ixL, v_ixT, v_ixC, v_ixR,
  at_lit, at_last, ix_lit, v_mulN, v_mulM, v_mulL0, v_mulL1, Nat.zero_le, v_divN, v_powN, v_mod, sbO_some, v_sb, v_pop0, pop0_cons, Int.reduceLT, Int.reduceLE, Int.reducePow, Int.reduceNeg, Int.reduceAdd, Int.reduceSub, Int.reduceMul, h_last, h_set, fin_app, fin_self, setR_some, set_tup, set_lst, set_ref, setO_lst, Nat.lt_irrefl,
  flatM, inF_nil, inF_cons, eqF, List.all_cons, List.all_nil, List.any_cons, List.any_nil, str_beq, str_lit, String.reduceEq, decide_true, decide_false, decide_eq_true_eq, Bool.and_true, Bool.true_and, Bool.and_false, Bool.false_and, Bool.or_true, Bool.true_or, Bool.or_false, Bool.false_or, Bool.not_true, Bool.not_false, Bool.and_self, Bool.or_self,
  List.getElem?_cons_zero, List.getElem?_cons_succ, List.set_cons_zero, List.set_cons_succ, List.getElem?_nil, if_true, reduceIte, Bool.false_eq_true, belows, below, Nat.le_refl, reduceCtorEq, e_lc, k_lc, k_lc2, e_yes, l_nil, l_cons, k_l1, k_l2t, k_l2f, k_l3, e_r1, k_r1N, e_en, k_enL, k_enT, e_mkE, k_mkE, e_erF, k_erF, e_isE, wipeM]
theorem cls_BadMend (a : MV) (h : MH) : F__law_classes [(.er "BadMend" [("mend", a)])] h = .ok (.lst (hotM 23)) h := by
  unfold F__law_classes
  simp only [k_isR, isR_t, in_NoRow, in_NoPlace, in_NoHandler, in_BadName, in_BadPlace, in_BadSlide, in_NoInverse, in_Twice, in_BadOperation, in_BadCall, in_BadVisit, in_BadLine, in_BadStep, in_BadText, in_BadWorld, in_BadNumber, in_BadSpot, in_BadBound, in_BadKind, in_OtherOperation, in_BadOrder, in_BadPair, in_BadRule, in_BadMend, in_TooMany, in_Clash, in_CallFailed, in_PlaceError, in_MissingError, kin_BadMend, has_BadMend, kx_BadMend_LookupError, kx_BadMend_ValueError, e_fun, finR_rt, finR_nx, finR_exc, fin_raw, finX_raw, List.map_cons, List.map_nil, List.replicate_succ, List.replicate_zero, List.cons_append, List.nil_append, List.append_nil, List.length_cons, List.length_nil, Nat.zero_add, Nat.reduceAdd, Nat.reduceLeDiff, Nat.reduceLT, Nat.zero_lt_succ, Nat.add_one_pos,  String.reduceBEq, v_isiS, v_isiI, v_isiB, v_isiT, v_isiL, isiR_some, tyM, subT,
  e_var, getS_val, e_k, e_nil, e_cons, k_cons1, k_cons1x, k_cons2, k_cons2x, e_tup, k_tup, k_tupx, e_lst, k_lst, k_lstx, e_op, k_op1, k_op1x, k_op2, k_op2x, e_test, asB_ok, asB_x, noX_ok, e_chain, k_ch1, k_ch2, k_ch3t, k_ch3f, e_and, k_andt, k_andf, e_or, k_ort, k_orf, e_not, k_not, e_if, k_ift, k_iff,
  e_tand, k_tandt, k_tandf, e_tor, k_tort, k_torf, e_tnot, k_tnot, e_tru, k_tru, k_trux, onRef_lst, blR_t, truR_some, tru_bl, tru_int, tru_lst, tru_tup, e_cb, k_cb, k_cbx, e_on1, e_on2, e_call, k_call, k_callx, e_neg, k_neg, e_lm, k_lm, k_lm2, k_lm2x, e_sm, k_sm, e_pn, e_ps, k_ps, e_sl, k_sl1, k_sl2, k_sl3, e_rev, k_rev,
  e_errF, e_errIs, k_errF, k_errIs, opR_some, e_seq, seqS_nx, seqS_rt, seqS_bk, seqS_ct, seqS_exc, e_nx, e_bk, e_ct, e_drop, k_drop, k_dropx, e_ret, k_ret, k_retx, e_retN, e_ifS, k_ifSt, k_ifSf, k_ifSx, e_set, k_set, k_setx, e_asg, k_asg, k_asgx, k_asg2, e_par, k_par, e_gn, e_gs0, e_gs1, k_gs, e_gtp, e_sb, k_sb1, k_sb2,
  e_raise, k_raise, e_it, k_it, e_for, k_for, run_nil, run_cons, k_turn, k_turnN, k_turnC, k_turnB, k_turnR, k_turnX, src_str, src_tup, src_lst, src_scr, e_try, k_try, k_tryx, k_catch0, k_catchT, k_catchF, k_goneR,
  v_newT, v_newL, v_newR, v_addI, v_addL, v_addT, v_addRL, v_dif, v_eqS, v_eqI, v_neS, v_neI, v_inT, v_inL, v_niT, v_niL, v_isn, v_is, nonM, v_lenL, v_lenT, v_lenC, v_lenR, v_abs, v_intI, v_intB, v_max, v_min, v_listL, v_listT, v_listR, v_tupL, v_tupT, v_tupR, v_ltI, v_leI, v_gtI, v_geI, v_cutC, v_cutL, v_cutT, v_cutR, v_revL, v_app, v_inR, v_ixL, v_ixT, v_ixC, v_ixR,
  at_lit, at_last, ix_lit, v_mulN, v_mulM, v_mulL0, v_mulL1, Nat.zero_le, v_divN, v_powN, v_mod, sbO_some, v_sb, v_pop0, pop0_cons, Int.reduceLT, Int.reduceLE, Int.reducePow, Int.reduceNeg, Int.reduceAdd, Int.reduceSub, Int.reduceMul, h_last, h_set, fin_app, fin_self, setR_some, set_tup, set_lst, set_ref, setO_lst, Nat.lt_irrefl,
  flatM, inF_nil, inF_cons, eqF, List.all_cons, List.all_nil, List.any_cons, List.any_nil, str_beq, str_lit, String.reduceEq, decide_true, decide_false, decide_eq_true_eq, Bool.and_true, Bool.true_and, Bool.and_false, Bool.false_and, Bool.or_true, Bool.true_or, Bool.or_false, Bool.false_or, Bool.not_true, Bool.not_false, Bool.and_self, Bool.or_self,
  List.getElem?_cons_zero, List.getElem?_cons_succ, List.set_cons_zero, List.set_cons_succ, List.getElem?_nil, if_true, reduceIte, Bool.false_eq_true, belows, below, Nat.le_refl, reduceCtorEq, e_lc, k_lc, k_lc2, e_yes, l_nil, l_cons, k_l1, k_l2t, k_l2f, k_l3, e_r1, k_r1N, e_en, k_enL, k_enT, e_mkE, k_mkE, e_erF, k_erF, e_isE, wipeM]
  rfl
theorem turn_BadMend (a : MV) (s0 s1 s2 s3 s4 s5 s6 s7 s8 s9 s10 s13 s14 s15 s16 : Sl) (h : MH) : B_law_2 [s0, s1, s2, s3, s4, s5, s6, s7, s8, s9, s10, .val (.int 23), .val (.er "BadMend" [("mend", a)]), s13, s14, s15, s16] h = .ok .nx [s0, s1, s2, s3, s4, s5, s6, s7, s8, s9, s10, .val (.int 23), .val (.er "BadMend" [("mend", a)]), .val (.lst [.bl false, .bl false]), s14, s15, s16] h := by
  have hc := hot_ok 23 23 rfl s0 s1 s2 s3 s4 s5 s6 s7 s8 s9 s10 (.val (.er "BadMend" [("mend", a)])) s13 s14 s15 s16 (h := h)
  rw [B_law_2_eq]
  simp only [↓hc, cls_BadMend, ne_hot, ne_two, v_neB, Int.reduceLT, Int.reduceGT, k_isR, isR_t, in_NoRow, in_NoPlace, in_NoHandler, in_BadName, in_BadPlace, in_BadSlide, in_NoInverse, in_Twice, in_BadOperation, in_BadCall, in_BadVisit, in_BadLine, in_BadStep, in_BadText, in_BadWorld, in_BadNumber, in_BadSpot, in_BadBound, in_BadKind, in_OtherOperation, in_BadOrder, in_BadPair, in_BadRule, in_BadMend, in_TooMany, in_Clash, in_CallFailed, in_PlaceError, in_MissingError, kin_BadMend, has_BadMend, kx_BadMend_LookupError, kx_BadMend_ValueError, e_fun, finR_rt, finR_nx, finR_exc, fin_raw, finX_raw, List.map_cons, List.map_nil, List.replicate_succ, List.replicate_zero, List.cons_append, List.nil_append, List.append_nil, List.length_cons, List.length_nil, Nat.zero_add, Nat.reduceAdd, Nat.reduceLeDiff, Nat.reduceLT, Nat.zero_lt_succ, Nat.add_one_pos,  String.reduceBEq, v_isiS, v_isiI, v_isiB, v_isiT, v_isiL, isiR_some, tyM, subT,
  e_var, getS_val, e_k, e_nil, e_cons, k_cons1, k_cons1x, k_cons2, k_cons2x, e_tup, k_tup, k_tupx, e_lst, k_lst, k_lstx, e_op, k_op1, k_op1x, k_op2, k_op2x, e_test, asB_ok, asB_x, noX_ok, e_chain, k_ch1, k_ch2, k_ch3t, k_ch3f, e_and, k_andt, k_andf, e_or, k_ort, k_orf, e_not, k_not, e_if, k_ift, k_iff,
  e_tand, k_tandt, k_tandf, e_tor, k_tort, k_torf, e_tnot, k_tnot, e_tru, k_tru, k_trux, onRef_lst, blR_t, truR_some, tru_bl, tru_int, tru_lst, tru_tup, e_cb, k_cb, k_cbx, e_on1, e_on2, e_call, k_call, k_callx, e_neg, k_neg, e_lm, k_lm, k_lm2, k_lm2x, e_sm, k_sm, e_pn, e_ps, k_ps, e_sl, k_sl1, k_sl2, k_sl3, e_rev, k_rev,
  e_errF, e_errIs, k_errF, k_errIs, opR_some, e_seq, seqS_nx, seqS_rt, seqS_bk, seqS_ct, seqS_exc, e_nx, e_bk, e_ct, e_drop, k_drop, k_dropx, e_ret, k_ret, k_retx, e_retN, e_ifS, k_ifSt, k_ifSf, k_ifSx, e_set, k_set, k_setx, e_asg, k_asg, k_asgx, k_asg2, e_par, k_par, e_gn, e_gs0, e_gs1, k_gs, e_gtp, e_sb, k_sb1, k_sb2,
  e_raise, k_raise, e_it, k_it, e_for, k_for, run_nil, run_cons, k_turn, k_turnN, k_turnC, k_turnB, k_turnR, k_turnX, src_str, src_tup, src_lst, src_scr, e_try, k_try, k_tryx, k_catch0, k_catchT, k_catchF, k_goneR,
  v_newT, v_newL, v_newR, v_addI, v_addL, v_addT, v_addRL, v_dif, v_eqS, v_eqI, v_neS, v_neI, v_inT, v_inL, v_niT, v_niL, v_isn, v_is, nonM, v_lenL, v_lenT, v_lenC, v_lenR, v_abs, v_intI, v_intB, v_max, v_min, v_listL, v_listT, v_listR, v_tupL, v_tupT, v_tupR, v_ltI, v_leI, v_gtI, v_geI, v_cutC, v_cutL, v_cutT, v_cutR, v_revL, v_app, v_inR, v_ixL, v_ixT, v_ixC, v_ixR,
  at_lit, at_last, ix_lit, v_mulN, v_mulM, v_mulL0, v_mulL1, Nat.zero_le, v_divN, v_powN, v_mod, sbO_some, v_sb, v_pop0, pop0_cons, Int.reduceLT, Int.reduceLE, Int.reducePow, Int.reduceNeg, Int.reduceAdd, Int.reduceSub, Int.reduceMul, h_last, h_set, fin_app, fin_self, setR_some, set_tup, set_lst, set_ref, setO_lst, Nat.lt_irrefl,
  flatM, inF_nil, inF_cons, eqF, List.all_cons, List.all_nil, List.any_cons, List.any_nil, str_beq, str_lit, String.reduceEq, decide_true, decide_false, decide_eq_true_eq, Bool.and_true, Bool.true_and, Bool.and_false, Bool.false_and, Bool.or_true, Bool.true_or, Bool.or_false, Bool.false_or, Bool.not_true, Bool.not_false, Bool.and_self, Bool.or_self,
  List.getElem?_cons_zero, List.getElem?_cons_succ, List.set_cons_zero, List.set_cons_succ, List.getElem?_nil, if_true, reduceIte, Bool.false_eq_true, belows, below, Nat.le_refl, reduceCtorEq, e_lc, k_lc, k_lc2, e_yes, l_nil, l_cons, k_l1, k_l2t, k_l2f, k_l3, e_r1, k_r1N, e_en, k_enL, k_enT, e_mkE, k_mkE, e_erF, k_erF, e_isE, wipeM]
theorem cls_TooMany (a : MV) (h : MH) : F__law_classes [(.er "TooMany" [("limit", a)])] h = .ok (.lst (hotM 24)) h := by
  unfold F__law_classes
  simp only [k_isR, isR_t, in_NoRow, in_NoPlace, in_NoHandler, in_BadName, in_BadPlace, in_BadSlide, in_NoInverse, in_Twice, in_BadOperation, in_BadCall, in_BadVisit, in_BadLine, in_BadStep, in_BadText, in_BadWorld, in_BadNumber, in_BadSpot, in_BadBound, in_BadKind, in_OtherOperation, in_BadOrder, in_BadPair, in_BadRule, in_BadMend, in_TooMany, in_Clash, in_CallFailed, in_PlaceError, in_MissingError, kin_TooMany, has_TooMany, kx_TooMany_LookupError, kx_TooMany_ValueError, e_fun, finR_rt, finR_nx, finR_exc, fin_raw, finX_raw, List.map_cons, List.map_nil, List.replicate_succ, List.replicate_zero, List.cons_append, List.nil_append, List.append_nil, List.length_cons, List.length_nil, Nat.zero_add, Nat.reduceAdd, Nat.reduceLeDiff, Nat.reduceLT, Nat.zero_lt_succ, Nat.add_one_pos,  String.reduceBEq, v_isiS, v_isiI, v_isiB, v_isiT, v_isiL, isiR_some, tyM, subT,
  e_var, getS_val, e_k, e_nil, e_cons, k_cons1, k_cons1x, k_cons2, k_cons2x, e_tup, k_tup, k_tupx, e_lst, k_lst, k_lstx, e_op, k_op1, k_op1x, k_op2, k_op2x, e_test, asB_ok, asB_x, noX_ok, e_chain, k_ch1, k_ch2, k_ch3t, k_ch3f, e_and, k_andt, k_andf, e_or, k_ort, k_orf, e_not, k_not, e_if, k_ift, k_iff,
  e_tand, k_tandt, k_tandf, e_tor, k_tort, k_torf, e_tnot, k_tnot, e_tru, k_tru, k_trux, onRef_lst, blR_t, truR_some, tru_bl, tru_int, tru_lst, tru_tup, e_cb, k_cb, k_cbx, e_on1, e_on2, e_call, k_call, k_callx, e_neg, k_neg, e_lm, k_lm, k_lm2, k_lm2x, e_sm, k_sm, e_pn, e_ps, k_ps, e_sl, k_sl1, k_sl2, k_sl3, e_rev, k_rev,
  e_errF, e_errIs, k_errF, k_errIs, opR_some, e_seq, seqS_nx, seqS_rt, seqS_bk, seqS_ct, seqS_exc, e_nx, e_bk, e_ct, e_drop, k_drop, k_dropx, e_ret, k_ret, k_retx, e_retN, e_ifS, k_ifSt, k_ifSf, k_ifSx, e_set, k_set, k_setx, e_asg, k_asg, k_asgx, k_asg2, e_par, k_par, e_gn, e_gs0, e_gs1, k_gs, e_gtp, e_sb, k_sb1, k_sb2,
  e_raise, k_raise, e_it, k_it, e_for, k_for, run_nil, run_cons, k_turn, k_turnN, k_turnC, k_turnB, k_turnR, k_turnX, src_str, src_tup, src_lst, src_scr, e_try, k_try, k_tryx, k_catch0, k_catchT, k_catchF, k_goneR,
  v_newT, v_newL, v_newR, v_addI, v_addL, v_addT, v_addRL, v_dif, v_eqS, v_eqI, v_neS, v_neI, v_inT, v_inL, v_niT, v_niL, v_isn, v_is, nonM, v_lenL, v_lenT, v_lenC, v_lenR, v_abs, v_intI, v_intB, v_max, v_min, v_listL, v_listT, v_listR, v_tupL, v_tupT, v_tupR, v_ltI, v_leI, v_gtI, v_geI, v_cutC, v_cutL, v_cutT, v_cutR, v_revL, v_app, v_inR, v_ixL, v_ixT, v_ixC, v_ixR,
  at_lit, at_last, ix_lit, v_mulN, v_mulM, v_mulL0, v_mulL1, Nat.zero_le, v_divN, v_powN, v_mod, sbO_some, v_sb, v_pop0, pop0_cons, Int.reduceLT, Int.reduceLE, Int.reducePow, Int.reduceNeg, Int.reduceAdd, Int.reduceSub, Int.reduceMul, h_last, h_set, fin_app, fin_self, setR_some, set_tup, set_lst, set_ref, setO_lst, Nat.lt_irrefl,
  flatM, inF_nil, inF_cons, eqF, List.all_cons, List.all_nil, List.any_cons, List.any_nil, str_beq, str_lit, String.reduceEq, decide_true, decide_false, decide_eq_true_eq, Bool.and_true, Bool.true_and, Bool.and_false, Bool.false_and, Bool.or_true, Bool.true_or, Bool.or_false, Bool.false_or, Bool.not_true, Bool.not_false, Bool.and_self, Bool.or_self,
  List.getElem?_cons_zero, List.getElem?_cons_succ, List.set_cons_zero, List.set_cons_succ, List.getElem?_nil, if_true, reduceIte, Bool.false_eq_true, belows, below, Nat.le_refl, reduceCtorEq, e_lc, k_lc, k_lc2, e_yes, l_nil, l_cons, k_l1, k_l2t, k_l2f, k_l3, e_r1, k_r1N, e_en, k_enL, k_enT, e_mkE, k_mkE, e_erF, k_erF, e_isE, wipeM]
  rfl
theorem turn_TooMany (a : MV) (s0 s1 s2 s3 s4 s5 s6 s7 s8 s9 s10 s13 s14 s15 s16 : Sl) (h : MH) : B_law_2 [s0, s1, s2, s3, s4, s5, s6, s7, s8, s9, s10, .val (.int 24), .val (.er "TooMany" [("limit", a)]), s13, s14, s15, s16] h = .ok .nx [s0, s1, s2, s3, s4, s5, s6, s7, s8, s9, s10, .val (.int 24), .val (.er "TooMany" [("limit", a)]), .val (.lst [.bl false, .bl false]), s14, s15, s16] h := by
  have hc := hot_ok 24 24 rfl s0 s1 s2 s3 s4 s5 s6 s7 s8 s9 s10 (.val (.er "TooMany" [("limit", a)])) s13 s14 s15 s16 (h := h)
  rw [B_law_2_eq]
  simp only [↓hc, cls_TooMany, ne_hot, ne_two, v_neB, Int.reduceLT, Int.reduceGT, k_isR, isR_t, in_NoRow, in_NoPlace, in_NoHandler, in_BadName, in_BadPlace, in_BadSlide, in_NoInverse, in_Twice, in_BadOperation, in_BadCall, in_BadVisit, in_BadLine, in_BadStep, in_BadText, in_BadWorld, in_BadNumber, in_BadSpot, in_BadBound, in_BadKind, in_OtherOperation, in_BadOrder, in_BadPair, in_BadRule, in_BadMend, in_TooMany, in_Clash, in_CallFailed, in_PlaceError, in_MissingError, kin_TooMany, has_TooMany, kx_TooMany_LookupError, kx_TooMany_ValueError, e_fun, finR_rt, finR_nx, finR_exc, fin_raw, finX_raw, List.map_cons, List.map_nil, List.replicate_succ, List.replicate_zero, List.cons_append, List.nil_append, List.append_nil, List.length_cons, List.length_nil, Nat.zero_add, Nat.reduceAdd, Nat.reduceLeDiff, Nat.reduceLT, Nat.zero_lt_succ, Nat.add_one_pos,  String.reduceBEq, v_isiS, v_isiI, v_isiB, v_isiT, v_isiL, isiR_some, tyM, subT,
  e_var, getS_val, e_k, e_nil, e_cons, k_cons1, k_cons1x, k_cons2, k_cons2x, e_tup, k_tup, k_tupx, e_lst, k_lst, k_lstx, e_op, k_op1, k_op1x, k_op2, k_op2x, e_test, asB_ok, asB_x, noX_ok, e_chain, k_ch1, k_ch2, k_ch3t, k_ch3f, e_and, k_andt, k_andf, e_or, k_ort, k_orf, e_not, k_not, e_if, k_ift, k_iff,
  e_tand, k_tandt, k_tandf, e_tor, k_tort, k_torf, e_tnot, k_tnot, e_tru, k_tru, k_trux, onRef_lst, blR_t, truR_some, tru_bl, tru_int, tru_lst, tru_tup, e_cb, k_cb, k_cbx, e_on1, e_on2, e_call, k_call, k_callx, e_neg, k_neg, e_lm, k_lm, k_lm2, k_lm2x, e_sm, k_sm, e_pn, e_ps, k_ps, e_sl, k_sl1, k_sl2, k_sl3, e_rev, k_rev,
  e_errF, e_errIs, k_errF, k_errIs, opR_some, e_seq, seqS_nx, seqS_rt, seqS_bk, seqS_ct, seqS_exc, e_nx, e_bk, e_ct, e_drop, k_drop, k_dropx, e_ret, k_ret, k_retx, e_retN, e_ifS, k_ifSt, k_ifSf, k_ifSx, e_set, k_set, k_setx, e_asg, k_asg, k_asgx, k_asg2, e_par, k_par, e_gn, e_gs0, e_gs1, k_gs, e_gtp, e_sb, k_sb1, k_sb2,
  e_raise, k_raise, e_it, k_it, e_for, k_for, run_nil, run_cons, k_turn, k_turnN, k_turnC, k_turnB, k_turnR, k_turnX, src_str, src_tup, src_lst, src_scr, e_try, k_try, k_tryx, k_catch0, k_catchT, k_catchF, k_goneR,
  v_newT, v_newL, v_newR, v_addI, v_addL, v_addT, v_addRL, v_dif, v_eqS, v_eqI, v_neS, v_neI, v_inT, v_inL, v_niT, v_niL, v_isn, v_is, nonM, v_lenL, v_lenT, v_lenC, v_lenR, v_abs, v_intI, v_intB, v_max, v_min, v_listL, v_listT, v_listR, v_tupL, v_tupT, v_tupR, v_ltI, v_leI, v_gtI, v_geI, v_cutC, v_cutL, v_cutT, v_cutR, v_revL, v_app, v_inR, v_ixL, v_ixT, v_ixC, v_ixR,
  at_lit, at_last, ix_lit, v_mulN, v_mulM, v_mulL0, v_mulL1, Nat.zero_le, v_divN, v_powN, v_mod, sbO_some, v_sb, v_pop0, pop0_cons, Int.reduceLT, Int.reduceLE, Int.reducePow, Int.reduceNeg, Int.reduceAdd, Int.reduceSub, Int.reduceMul, h_last, h_set, fin_app, fin_self, setR_some, set_tup, set_lst, set_ref, setO_lst, Nat.lt_irrefl,
  flatM, inF_nil, inF_cons, eqF, List.all_cons, List.all_nil, List.any_cons, List.any_nil, str_beq, str_lit, String.reduceEq, decide_true, decide_false, decide_eq_true_eq, Bool.and_true, Bool.true_and, Bool.and_false, Bool.false_and, Bool.or_true, Bool.true_or, Bool.or_false, Bool.false_or, Bool.not_true, Bool.not_false, Bool.and_self, Bool.or_self,
  List.getElem?_cons_zero, List.getElem?_cons_succ, List.set_cons_zero, List.set_cons_succ, List.getElem?_nil, if_true, reduceIte, Bool.false_eq_true, belows, below, Nat.le_refl, reduceCtorEq, e_lc, k_lc, k_lc2, e_yes, l_nil, l_cons, k_l1, k_l2t, k_l2f, k_l3, e_r1, k_r1N, e_en, k_enL, k_enT, e_mkE, k_mkE, e_erF, k_erF, e_isE, wipeM]
theorem cls_Clash (a b c : MV) (h : MH) : F__law_classes [(.er "Clash" [("step", a), ("row", b), ("other", c)])] h = .ok (.lst (hotM 25)) h := by
  unfold F__law_classes
  simp only [k_isR, isR_t, in_NoRow, in_NoPlace, in_NoHandler, in_BadName, in_BadPlace, in_BadSlide, in_NoInverse, in_Twice, in_BadOperation, in_BadCall, in_BadVisit, in_BadLine, in_BadStep, in_BadText, in_BadWorld, in_BadNumber, in_BadSpot, in_BadBound, in_BadKind, in_OtherOperation, in_BadOrder, in_BadPair, in_BadRule, in_BadMend, in_TooMany, in_Clash, in_CallFailed, in_PlaceError, in_MissingError, kin_Clash, has_Clash, kx_Clash_LookupError, kx_Clash_ValueError, e_fun, finR_rt, finR_nx, finR_exc, fin_raw, finX_raw, List.map_cons, List.map_nil, List.replicate_succ, List.replicate_zero, List.cons_append, List.nil_append, List.append_nil, List.length_cons, List.length_nil, Nat.zero_add, Nat.reduceAdd, Nat.reduceLeDiff, Nat.reduceLT, Nat.zero_lt_succ, Nat.add_one_pos,  String.reduceBEq, v_isiS, v_isiI, v_isiB, v_isiT, v_isiL, isiR_some, tyM, subT,
  e_var, getS_val, e_k, e_nil, e_cons, k_cons1, k_cons1x, k_cons2, k_cons2x, e_tup, k_tup, k_tupx, e_lst, k_lst, k_lstx, e_op, k_op1, k_op1x, k_op2, k_op2x, e_test, asB_ok, asB_x, noX_ok, e_chain, k_ch1, k_ch2, k_ch3t, k_ch3f, e_and, k_andt, k_andf, e_or, k_ort, k_orf, e_not, k_not, e_if, k_ift, k_iff,
  e_tand, k_tandt, k_tandf, e_tor, k_tort, k_torf, e_tnot, k_tnot, e_tru, k_tru, k_trux, onRef_lst, blR_t, truR_some, tru_bl, tru_int, tru_lst, tru_tup, e_cb, k_cb, k_cbx, e_on1, e_on2, e_call, k_call, k_callx, e_neg, k_neg, e_lm, k_lm, k_lm2, k_lm2x, e_sm, k_sm, e_pn, e_ps, k_ps, e_sl, k_sl1, k_sl2, k_sl3, e_rev, k_rev,
  e_errF, e_errIs, k_errF, k_errIs, opR_some, e_seq, seqS_nx, seqS_rt, seqS_bk, seqS_ct, seqS_exc, e_nx, e_bk, e_ct, e_drop, k_drop, k_dropx, e_ret, k_ret, k_retx, e_retN, e_ifS, k_ifSt, k_ifSf, k_ifSx, e_set, k_set, k_setx, e_asg, k_asg, k_asgx, k_asg2, e_par, k_par, e_gn, e_gs0, e_gs1, k_gs, e_gtp, e_sb, k_sb1, k_sb2,
  e_raise, k_raise, e_it, k_it, e_for, k_for, run_nil, run_cons, k_turn, k_turnN, k_turnC, k_turnB, k_turnR, k_turnX, src_str, src_tup, src_lst, src_scr, e_try, k_try, k_tryx, k_catch0, k_catchT, k_catchF, k_goneR,
  v_newT, v_newL, v_newR, v_addI, v_addL, v_addT, v_addRL, v_dif, v_eqS, v_eqI, v_neS, v_neI, v_inT, v_inL, v_niT, v_niL, v_isn, v_is, nonM, v_lenL, v_lenT, v_lenC, v_lenR, v_abs, v_intI, v_intB, v_max, v_min, v_listL, v_listT, v_listR, v_tupL, v_tupT, v_tupR, v_ltI, v_leI, v_gtI, v_geI, v_cutC, v_cutL, v_cutT, v_cutR, v_revL, v_app, v_inR, v_ixL, v_ixT, v_ixC, v_ixR,
  at_lit, at_last, ix_lit, v_mulN, v_mulM, v_mulL0, v_mulL1, Nat.zero_le, v_divN, v_powN, v_mod, sbO_some, v_sb, v_pop0, pop0_cons, Int.reduceLT, Int.reduceLE, Int.reducePow, Int.reduceNeg, Int.reduceAdd, Int.reduceSub, Int.reduceMul, h_last, h_set, fin_app, fin_self, setR_some, set_tup, set_lst, set_ref, setO_lst, Nat.lt_irrefl,
  flatM, inF_nil, inF_cons, eqF, List.all_cons, List.all_nil, List.any_cons, List.any_nil, str_beq, str_lit, String.reduceEq, decide_true, decide_false, decide_eq_true_eq, Bool.and_true, Bool.true_and, Bool.and_false, Bool.false_and, Bool.or_true, Bool.true_or, Bool.or_false, Bool.false_or, Bool.not_true, Bool.not_false, Bool.and_self, Bool.or_self,
  List.getElem?_cons_zero, List.getElem?_cons_succ, List.set_cons_zero, List.set_cons_succ, List.getElem?_nil, if_true, reduceIte, Bool.false_eq_true, belows, below, Nat.le_refl, reduceCtorEq, e_lc, k_lc, k_lc2, e_yes, l_nil, l_cons, k_l1, k_l2t, k_l2f, k_l3, e_r1, k_r1N, e_en, k_enL, k_enT, e_mkE, k_mkE, e_erF, k_erF, e_isE, wipeM]
  rfl
theorem turn_Clash (a b c : MV) (s0 s1 s2 s3 s4 s5 s6 s7 s8 s9 s10 s13 s14 s15 s16 : Sl) (h : MH) : B_law_2 [s0, s1, s2, s3, s4, s5, s6, s7, s8, s9, s10, .val (.int 25), .val (.er "Clash" [("step", a), ("row", b), ("other", c)]), s13, s14, s15, s16] h = .ok .nx [s0, s1, s2, s3, s4, s5, s6, s7, s8, s9, s10, .val (.int 25), .val (.er "Clash" [("step", a), ("row", b), ("other", c)]), .val (.lst [.bl false, .bl false]), s14, s15, s16] h := by
  have hc := hot_ok 25 25 rfl s0 s1 s2 s3 s4 s5 s6 s7 s8 s9 s10 (.val (.er "Clash" [("step", a), ("row", b), ("other", c)])) s13 s14 s15 s16 (h := h)
  rw [B_law_2_eq]
  simp only [↓hc, cls_Clash, ne_hot, ne_two, v_neB, Int.reduceLT, Int.reduceGT, k_isR, isR_t, in_NoRow, in_NoPlace, in_NoHandler, in_BadName, in_BadPlace, in_BadSlide, in_NoInverse, in_Twice, in_BadOperation, in_BadCall, in_BadVisit, in_BadLine, in_BadStep, in_BadText, in_BadWorld, in_BadNumber, in_BadSpot, in_BadBound, in_BadKind, in_OtherOperation, in_BadOrder, in_BadPair, in_BadRule, in_BadMend, in_TooMany, in_Clash, in_CallFailed, in_PlaceError, in_MissingError, kin_Clash, has_Clash, kx_Clash_LookupError, kx_Clash_ValueError, e_fun, finR_rt, finR_nx, finR_exc, fin_raw, finX_raw, List.map_cons, List.map_nil, List.replicate_succ, List.replicate_zero, List.cons_append, List.nil_append, List.append_nil, List.length_cons, List.length_nil, Nat.zero_add, Nat.reduceAdd, Nat.reduceLeDiff, Nat.reduceLT, Nat.zero_lt_succ, Nat.add_one_pos,  String.reduceBEq, v_isiS, v_isiI, v_isiB, v_isiT, v_isiL, isiR_some, tyM, subT,
  e_var, getS_val, e_k, e_nil, e_cons, k_cons1, k_cons1x, k_cons2, k_cons2x, e_tup, k_tup, k_tupx, e_lst, k_lst, k_lstx, e_op, k_op1, k_op1x, k_op2, k_op2x, e_test, asB_ok, asB_x, noX_ok, e_chain, k_ch1, k_ch2, k_ch3t, k_ch3f, e_and, k_andt, k_andf, e_or, k_ort, k_orf, e_not, k_not, e_if, k_ift, k_iff,
  e_tand, k_tandt, k_tandf, e_tor, k_tort, k_torf, e_tnot, k_tnot, e_tru, k_tru, k_trux, onRef_lst, blR_t, truR_some, tru_bl, tru_int, tru_lst, tru_tup, e_cb, k_cb, k_cbx, e_on1, e_on2, e_call, k_call, k_callx, e_neg, k_neg, e_lm, k_lm, k_lm2, k_lm2x, e_sm, k_sm, e_pn, e_ps, k_ps, e_sl, k_sl1, k_sl2, k_sl3, e_rev, k_rev,
  e_errF, e_errIs, k_errF, k_errIs, opR_some, e_seq, seqS_nx, seqS_rt, seqS_bk, seqS_ct, seqS_exc, e_nx, e_bk, e_ct, e_drop, k_drop, k_dropx, e_ret, k_ret, k_retx, e_retN, e_ifS, k_ifSt, k_ifSf, k_ifSx, e_set, k_set, k_setx, e_asg, k_asg, k_asgx, k_asg2, e_par, k_par, e_gn, e_gs0, e_gs1, k_gs, e_gtp, e_sb, k_sb1, k_sb2,
  e_raise, k_raise, e_it, k_it, e_for, k_for, run_nil, run_cons, k_turn, k_turnN, k_turnC, k_turnB, k_turnR, k_turnX, src_str, src_tup, src_lst, src_scr, e_try, k_try, k_tryx, k_catch0, k_catchT, k_catchF, k_goneR,
  v_newT, v_newL, v_newR, v_addI, v_addL, v_addT, v_addRL, v_dif, v_eqS, v_eqI, v_neS, v_neI, v_inT, v_inL, v_niT, v_niL, v_isn, v_is, nonM, v_lenL, v_lenT, v_lenC, v_lenR, v_abs, v_intI, v_intB, v_max, v_min, v_listL, v_listT, v_listR, v_tupL, v_tupT, v_tupR, v_ltI, v_leI, v_gtI, v_geI, v_cutC, v_cutL, v_cutT, v_cutR, v_revL, v_app, v_inR, v_ixL, v_ixT, v_ixC, v_ixR,
  at_lit, at_last, ix_lit, v_mulN, v_mulM, v_mulL0, v_mulL1, Nat.zero_le, v_divN, v_powN, v_mod, sbO_some, v_sb, v_pop0, pop0_cons, Int.reduceLT, Int.reduceLE, Int.reducePow, Int.reduceNeg, Int.reduceAdd, Int.reduceSub, Int.reduceMul, h_last, h_set, fin_app, fin_self, setR_some, set_tup, set_lst, set_ref, setO_lst, Nat.lt_irrefl,
  flatM, inF_nil, inF_cons, eqF, List.all_cons, List.all_nil, List.any_cons, List.any_nil, str_beq, str_lit, String.reduceEq, decide_true, decide_false, decide_eq_true_eq, Bool.and_true, Bool.true_and, Bool.and_false, Bool.false_and, Bool.or_true, Bool.true_or, Bool.or_false, Bool.false_or, Bool.not_true, Bool.not_false, Bool.and_self, Bool.or_self,
  List.getElem?_cons_zero, List.getElem?_cons_succ, List.set_cons_zero, List.set_cons_succ, List.getElem?_nil, if_true, reduceIte, Bool.false_eq_true, belows, below, Nat.le_refl, reduceCtorEq, e_lc, k_lc, k_lc2, e_yes, l_nil, l_cons, k_l1, k_l2t, k_l2f, k_l3, e_r1, k_r1N, e_en, k_enL, k_enT, e_mkE, k_mkE, e_erF, k_erF, e_isE, wipeM]
theorem cls_CallFailed (a b : MV) (h : MH) : F__law_classes [(.er "CallFailed" [("index", a), ("reason", b)])] h = .ok (.lst (hotM 26)) h := by
  unfold F__law_classes
  simp only [k_isR, isR_t, in_NoRow, in_NoPlace, in_NoHandler, in_BadName, in_BadPlace, in_BadSlide, in_NoInverse, in_Twice, in_BadOperation, in_BadCall, in_BadVisit, in_BadLine, in_BadStep, in_BadText, in_BadWorld, in_BadNumber, in_BadSpot, in_BadBound, in_BadKind, in_OtherOperation, in_BadOrder, in_BadPair, in_BadRule, in_BadMend, in_TooMany, in_Clash, in_CallFailed, in_PlaceError, in_MissingError, kin_CallFailed, has_CallFailed, kx_CallFailed_LookupError, kx_CallFailed_ValueError, e_fun, finR_rt, finR_nx, finR_exc, fin_raw, finX_raw, List.map_cons, List.map_nil, List.replicate_succ, List.replicate_zero, List.cons_append, List.nil_append, List.append_nil, List.length_cons, List.length_nil, Nat.zero_add, Nat.reduceAdd, Nat.reduceLeDiff, Nat.reduceLT, Nat.zero_lt_succ, Nat.add_one_pos,  String.reduceBEq, v_isiS, v_isiI, v_isiB, v_isiT, v_isiL, isiR_some, tyM, subT,
  e_var, getS_val, e_k, e_nil, e_cons, k_cons1, k_cons1x, k_cons2, k_cons2x, e_tup, k_tup, k_tupx, e_lst, k_lst, k_lstx, e_op, k_op1, k_op1x, k_op2, k_op2x, e_test, asB_ok, asB_x, noX_ok, e_chain, k_ch1, k_ch2, k_ch3t, k_ch3f, e_and, k_andt, k_andf, e_or, k_ort, k_orf, e_not, k_not, e_if, k_ift, k_iff,
  e_tand, k_tandt, k_tandf, e_tor, k_tort, k_torf, e_tnot, k_tnot, e_tru, k_tru, k_trux, onRef_lst, blR_t, truR_some, tru_bl, tru_int, tru_lst, tru_tup, e_cb, k_cb, k_cbx, e_on1, e_on2, e_call, k_call, k_callx, e_neg, k_neg, e_lm, k_lm, k_lm2, k_lm2x, e_sm, k_sm, e_pn, e_ps, k_ps, e_sl, k_sl1, k_sl2, k_sl3, e_rev, k_rev,
  e_errF, e_errIs, k_errF, k_errIs, opR_some, e_seq, seqS_nx, seqS_rt, seqS_bk, seqS_ct, seqS_exc, e_nx, e_bk, e_ct, e_drop, k_drop, k_dropx, e_ret, k_ret, k_retx, e_retN, e_ifS, k_ifSt, k_ifSf, k_ifSx, e_set, k_set, k_setx, e_asg, k_asg, k_asgx, k_asg2, e_par, k_par, e_gn, e_gs0, e_gs1, k_gs, e_gtp, e_sb, k_sb1, k_sb2,
  e_raise, k_raise, e_it, k_it, e_for, k_for, run_nil, run_cons, k_turn, k_turnN, k_turnC, k_turnB, k_turnR, k_turnX, src_str, src_tup, src_lst, src_scr, e_try, k_try, k_tryx, k_catch0, k_catchT, k_catchF, k_goneR,
  v_newT, v_newL, v_newR, v_addI, v_addL, v_addT, v_addRL, v_dif, v_eqS, v_eqI, v_neS, v_neI, v_inT, v_inL, v_niT, v_niL, v_isn, v_is, nonM, v_lenL, v_lenT, v_lenC, v_lenR, v_abs, v_intI, v_intB, v_max, v_min, v_listL, v_listT, v_listR, v_tupL, v_tupT, v_tupR, v_ltI, v_leI, v_gtI, v_geI, v_cutC, v_cutL, v_cutT, v_cutR, v_revL, v_app, v_inR, v_ixL, v_ixT, v_ixC, v_ixR,
  at_lit, at_last, ix_lit, v_mulN, v_mulM, v_mulL0, v_mulL1, Nat.zero_le, v_divN, v_powN, v_mod, sbO_some, v_sb, v_pop0, pop0_cons, Int.reduceLT, Int.reduceLE, Int.reducePow, Int.reduceNeg, Int.reduceAdd, Int.reduceSub, Int.reduceMul, h_last, h_set, fin_app, fin_self, setR_some, set_tup, set_lst, set_ref, setO_lst, Nat.lt_irrefl,
  flatM, inF_nil, inF_cons, eqF, List.all_cons, List.all_nil, List.any_cons, List.any_nil, str_beq, str_lit, String.reduceEq, decide_true, decide_false, decide_eq_true_eq, Bool.and_true, Bool.true_and, Bool.and_false, Bool.false_and, Bool.or_true, Bool.true_or, Bool.or_false, Bool.false_or, Bool.not_true, Bool.not_false, Bool.and_self, Bool.or_self,
  List.getElem?_cons_zero, List.getElem?_cons_succ, List.set_cons_zero, List.set_cons_succ, List.getElem?_nil, if_true, reduceIte, Bool.false_eq_true, belows, below, Nat.le_refl, reduceCtorEq, e_lc, k_lc, k_lc2, e_yes, l_nil, l_cons, k_l1, k_l2t, k_l2f, k_l3, e_r1, k_r1N, e_en, k_enL, k_enT, e_mkE, k_mkE, e_erF, k_erF, e_isE, wipeM]
  rfl
theorem turn_CallFailed (a b : MV) (s0 s1 s2 s3 s4 s5 s6 s7 s8 s9 s10 s13 s14 s15 s16 : Sl) (h : MH) : B_law_2 [s0, s1, s2, s3, s4, s5, s6, s7, s8, s9, s10, .val (.int 26), .val (.er "CallFailed" [("index", a), ("reason", b)]), s13, s14, s15, s16] h = .ok .nx [s0, s1, s2, s3, s4, s5, s6, s7, s8, s9, s10, .val (.int 26), .val (.er "CallFailed" [("index", a), ("reason", b)]), .val (.lst [.bl false, .bl false]), s14, s15, s16] h := by
  have hc := hot_ok 26 26 rfl s0 s1 s2 s3 s4 s5 s6 s7 s8 s9 s10 (.val (.er "CallFailed" [("index", a), ("reason", b)])) s13 s14 s15 s16 (h := h)
  rw [B_law_2_eq]
  simp only [↓hc, cls_CallFailed, ne_hot, ne_two, v_neB, Int.reduceLT, Int.reduceGT, k_isR, isR_t, in_NoRow, in_NoPlace, in_NoHandler, in_BadName, in_BadPlace, in_BadSlide, in_NoInverse, in_Twice, in_BadOperation, in_BadCall, in_BadVisit, in_BadLine, in_BadStep, in_BadText, in_BadWorld, in_BadNumber, in_BadSpot, in_BadBound, in_BadKind, in_OtherOperation, in_BadOrder, in_BadPair, in_BadRule, in_BadMend, in_TooMany, in_Clash, in_CallFailed, in_PlaceError, in_MissingError, kin_CallFailed, has_CallFailed, kx_CallFailed_LookupError, kx_CallFailed_ValueError, e_fun, finR_rt, finR_nx, finR_exc, fin_raw, finX_raw, List.map_cons, List.map_nil, List.replicate_succ, List.replicate_zero, List.cons_append, List.nil_append, List.append_nil, List.length_cons, List.length_nil, Nat.zero_add, Nat.reduceAdd, Nat.reduceLeDiff, Nat.reduceLT, Nat.zero_lt_succ, Nat.add_one_pos,  String.reduceBEq, v_isiS, v_isiI, v_isiB, v_isiT, v_isiL, isiR_some, tyM, subT,
  e_var, getS_val, e_k, e_nil, e_cons, k_cons1, k_cons1x, k_cons2, k_cons2x, e_tup, k_tup, k_tupx, e_lst, k_lst, k_lstx, e_op, k_op1, k_op1x, k_op2, k_op2x, e_test, asB_ok, asB_x, noX_ok, e_chain, k_ch1, k_ch2, k_ch3t, k_ch3f, e_and, k_andt, k_andf, e_or, k_ort, k_orf, e_not, k_not, e_if, k_ift, k_iff,
  e_tand, k_tandt, k_tandf, e_tor, k_tort, k_torf, e_tnot, k_tnot, e_tru, k_tru, k_trux, onRef_lst, blR_t, truR_some, tru_bl, tru_int, tru_lst, tru_tup, e_cb, k_cb, k_cbx, e_on1, e_on2, e_call, k_call, k_callx, e_neg, k_neg, e_lm, k_lm, k_lm2, k_lm2x, e_sm, k_sm, e_pn, e_ps, k_ps, e_sl, k_sl1, k_sl2, k_sl3, e_rev, k_rev,
  e_errF, e_errIs, k_errF, k_errIs, opR_some, e_seq, seqS_nx, seqS_rt, seqS_bk, seqS_ct, seqS_exc, e_nx, e_bk, e_ct, e_drop, k_drop, k_dropx, e_ret, k_ret, k_retx, e_retN, e_ifS, k_ifSt, k_ifSf, k_ifSx, e_set, k_set, k_setx, e_asg, k_asg, k_asgx, k_asg2, e_par, k_par, e_gn, e_gs0, e_gs1, k_gs, e_gtp, e_sb, k_sb1, k_sb2,
  e_raise, k_raise, e_it, k_it, e_for, k_for, run_nil, run_cons, k_turn, k_turnN, k_turnC, k_turnB, k_turnR, k_turnX, src_str, src_tup, src_lst, src_scr, e_try, k_try, k_tryx, k_catch0, k_catchT, k_catchF, k_goneR,
  v_newT, v_newL, v_newR, v_addI, v_addL, v_addT, v_addRL, v_dif, v_eqS, v_eqI, v_neS, v_neI, v_inT, v_inL, v_niT, v_niL, v_isn, v_is, nonM, v_lenL, v_lenT, v_lenC, v_lenR, v_abs, v_intI, v_intB, v_max, v_min, v_listL, v_listT, v_listR, v_tupL, v_tupT, v_tupR, v_ltI, v_leI, v_gtI, v_geI, v_cutC, v_cutL, v_cutT, v_cutR, v_revL, v_app, v_inR, v_ixL, v_ixT, v_ixC, v_ixR,
  at_lit, at_last, ix_lit, v_mulN, v_mulM, v_mulL0, v_mulL1, Nat.zero_le, v_divN, v_powN, v_mod, sbO_some, v_sb, v_pop0, pop0_cons, Int.reduceLT, Int.reduceLE, Int.reducePow, Int.reduceNeg, Int.reduceAdd, Int.reduceSub, Int.reduceMul, h_last, h_set, fin_app, fin_self, setR_some, set_tup, set_lst, set_ref, setO_lst, Nat.lt_irrefl,
  flatM, inF_nil, inF_cons, eqF, List.all_cons, List.all_nil, List.any_cons, List.any_nil, str_beq, str_lit, String.reduceEq, decide_true, decide_false, decide_eq_true_eq, Bool.and_true, Bool.true_and, Bool.and_false, Bool.false_and, Bool.or_true, Bool.true_or, Bool.or_false, Bool.false_or, Bool.not_true, Bool.not_false, Bool.and_self, Bool.or_self,
  List.getElem?_cons_zero, List.getElem?_cons_succ, List.set_cons_zero, List.set_cons_succ, List.getElem?_nil, if_true, reduceIte, Bool.false_eq_true, belows, below, Nat.le_refl, reduceCtorEq, e_lc, k_lc, k_lc2, e_yes, l_nil, l_cons, k_l1, k_l2t, k_l2f, k_l3, e_r1, k_r1N, e_en, k_enL, k_enT, e_mkE, k_mkE, e_erF, k_erF, e_isE, wipeM]
end L
set_option Elab.async false
set_option linter.all false
set_option maxRecDepth 100000
set_option maxHeartbeats 400000
namespace L
open PySem PySem.Spec L2 G M
local macro_rules | `(tactic| walk_at "ev") => `(tactic| simp only [e_fun, finR_rt, finR_nx, finR_exc, fin_raw, finX_raw, List.map_cons, List.map_nil, List.replicate_succ, List.replicate_zero, List.cons_append, List.nil_append, List.append_nil, List.length_cons, List.length_nil, Nat.zero_add, Nat.reduceAdd, Nat.reduceLeDiff, Nat.reduceLT, Nat.zero_lt_succ, Nat.add_one_pos,  String.reduceBEq, v_isiS, v_isiI, v_isiB, v_isiT, v_isiL, isiR_some, tyM, subT,
  e_var, getS_val, e_k, e_nil, e_cons, k_cons1, k_cons1x, k_cons2, k_cons2x, e_tup, k_tup, k_tupx, e_lst, k_lst, k_lstx, e_op, k_op1, k_op1x, k_op2, k_op2x, e_test, asB_ok, asB_x, noX_ok, e_chain, k_ch1, k_ch2, k_ch3t, k_ch3f, e_and, k_andt, k_andf, e_or, k_ort, k_orf, e_not, k_not, e_if, k_ift, k_iff,
  e_tand, k_tandt, k_tandf, e_tor, k_tort, k_torf, e_tnot, k_tnot, e_tru, k_tru, k_trux, onRef_lst, blR_t, truR_some, tru_bl, tru_int, tru_lst, tru_tup, e_cb, k_cb, k_cbx, e_on1, e_on2, e_call, k_call, k_callx, e_neg, k_neg, e_lm, k_lm, k_lm2, k_lm2x, e_sm, k_sm, e_pn, e_ps, k_ps, e_sl, k_sl1, k_sl2, k_sl3, e_rev, k_rev,
  e_errF, e_errIs, k_errF, k_errIs, opR_some, e_seq, seqS_nx, seqS_rt, seqS_bk, seqS_ct, seqS_exc, e_nx, e_bk, e_ct, e_drop, k_drop, k_dropx, e_ret, k_ret, k_retx, e_retN, e_ifS, k_ifSt, k_ifSf, k_ifSx, e_set, k_set, k_setx, e_asg, k_asg, k_asgx, k_asg2, e_par, k_par, e_gn, e_gs0, e_gs1, k_gs, e_gtp, e_sb, k_sb1, k_sb2,
  e_raise, k_raise, e_it, k_it, e_for, k_for, run_nil, run_cons, k_turn, k_turnN, k_turnC, k_turnB, k_turnR, k_turnX, src_str, src_tup, src_lst, src_scr, e_try, k_try, k_tryx, k_catch0, k_catchT, k_catchF, k_goneR,
  v_newT, v_newL, v_newR, v_addI, v_addL, v_addT, v_addRL, v_dif, v_eqS, v_eqI, v_neS, v_neI, v_inT, v_inL, v_niT, v_niL, v_isn, v_is, nonM, v_lenL, v_lenT, v_lenC, v_lenR, v_abs, v_intI, v_intB, v_max, v_min, v_listL, v_listT, v_listR, v_tupL, v_tupT, v_tupR, v_ltI, v_leI, v_gtI, v_geI, v_cutC, v_cutL, v_cutT, v_cutR, v_revL, v_app, v_inR, v_ixL, v_ixT, v_ixC, v_ixR,
  at_lit, at_last, ix_lit, v_mulN, v_mulM, v_mulL0, v_mulL1, Nat.zero_le, v_divN, v_powN, v_mod, sbO_some, v_sb, v_pop0, pop0_cons, Int.reduceLT, Int.reduceLE, Int.reducePow, Int.reduceNeg, Int.reduceAdd, Int.reduceSub, Int.reduceMul, h_last, h_set, fin_app, fin_self, setR_some, set_tup, set_lst, set_ref, setO_lst, Nat.lt_irrefl,
  flatM, inF_nil, inF_cons, eqF, List.all_cons, List.all_nil, List.any_cons, List.any_nil, str_beq, str_lit, String.reduceEq, decide_true, decide_false, decide_eq_true_eq, Bool.and_true, Bool.true_and, Bool.and_false, Bool.false_and, Bool.or_true, Bool.true_or, Bool.or_false, Bool.false_or, Bool.not_true, Bool.not_false, Bool.and_self, Bool.or_self,
  List.getElem?_cons_zero, List.getElem?_cons_succ, List.set_cons_zero, List.set_cons_succ, List.getElem?_nil, if_true, reduceIte, Bool.false_eq_true, belows, below, Nat.le_refl, reduceCtorEq, e_lc, k_lc, k_lc2, e_yes, l_nil, l_cons, k_l1, k_l2t, k_l2f, k_l3, e_r1, k_r1N, e_en, k_enL, k_enT, e_mkE, k_mkE, e_erF, k_erF, e_isE, wipeM])
local macro_rules | `(tactic| walk_at "evs") => `(tactic| simp only [*, e_fun, finR_rt, finR_nx, finR_exc, fin_raw, finX_raw, List.map_cons, List.map_nil, List.replicate_succ, List.replicate_zero, List.cons_append, List.nil_append, List.append_nil, List.length_cons, List.length_nil, Nat.zero_add, Nat.reduceAdd, Nat.reduceLeDiff, Nat.reduceLT, Nat.zero_lt_succ, Nat.add_one_pos,  String.reduceBEq, v_isiS, v_isiI, v_isiB, v_isiT, v_isiL, isiR_some, tyM, subT,
  e_var, getS_val, e_k, e_nil, e_cons, k_cons1, k_cons1x, k_cons2, k_cons2x, e_tup, k_tup, k_tupx, e_lst, k_lst, k_lstx, e_op, k_op1, k_op1x, k_op2, k_op2x, e_test, asB_ok, asB_x, noX_ok, e_chain, k_ch1, k_ch2, k_ch3t, k_ch3f, e_and, k_andt, k_andf, e_or, k_ort, k_orf, e_not, k_not, e_if, k_ift, k_iff,
  e_tand, k_tandt, k_tandf, e_tor, k_tort, k_torf, e_tnot, k_tnot, e_tru, k_tru, k_trux, onRef_lst, blR_t, truR_some, tru_bl, tru_int, tru_lst, tru_tup, e_cb, k_cb, k_cbx, e_on1, e_on2, e_call, k_call, k_callx, e_neg, k_neg, e_lm, k_lm, k_lm2, k_lm2x, e_sm, k_sm, e_pn, e_ps, k_ps, e_sl, k_sl1, k_sl2, k_sl3, e_rev, k_rev,
  e_errF, e_errIs, k_errF, k_errIs, opR_some, e_seq, seqS_nx, seqS_rt, seqS_bk, seqS_ct, seqS_exc, e_nx, e_bk, e_ct, e_drop, k_drop, k_dropx, e_ret, k_ret, k_retx, e_retN, e_ifS, k_ifSt, k_ifSf, k_ifSx, e_set, k_set, k_setx, e_asg, k_asg, k_asgx, k_asg2, e_par, k_par, e_gn, e_gs0, e_gs1, k_gs, e_gtp, e_sb, k_sb1, k_sb2,
  e_raise, k_raise, e_it, k_it, e_for, k_for, run_nil, run_cons, k_turn, k_turnN, k_turnC, k_turnB, k_turnR, k_turnX, src_str, src_tup, src_lst, src_scr, e_try, k_try, k_tryx, k_catch0, k_catchT, k_catchF, k_goneR,
  v_newT, v_newL, v_newR, v_addI, v_addL, v_addT, v_addRL, v_dif, v_eqS, v_eqI, v_neS, v_neI, v_inT, v_inL, v_niT, v_niL, v_isn, v_is, nonM, v_lenL, v_lenT, v_lenC, v_lenR, v_abs, v_intI, v_intB, v_max, v_min, v_listL, v_listT, v_listR, v_tupL, v_tupT, v_tupR, v_ltI, v_leI, v_gtI, v_geI, v_cutC, v_cutL, v_cutT, v_cutR, v_revL, v_app, v_inR, v_ixL, v_ixT, v_ixC, v_ixR,
  at_lit, at_last, ix_lit, v_mulN, v_mulM, v_mulL0, v_mulL1, Nat.zero_le, v_divN, v_powN, v_mod, sbO_some, v_sb, v_pop0, pop0_cons, Int.reduceLT, Int.reduceLE, Int.reducePow, Int.reduceNeg, Int.reduceAdd, Int.reduceSub, Int.reduceMul, h_last, h_set, fin_app, fin_self, setR_some, set_tup, set_lst, set_ref, setO_lst, Nat.lt_irrefl,
  flatM, inF_nil, inF_cons, eqF, List.all_cons, List.all_nil, List.any_cons, List.any_nil, str_beq, str_lit, String.reduceEq, decide_true, decide_false, decide_eq_true_eq, Bool.and_true, Bool.true_and, Bool.and_false, Bool.false_and, Bool.or_true, Bool.true_or, Bool.or_false, Bool.false_or, Bool.not_true, Bool.not_false, Bool.and_self, Bool.or_self,
  List.getElem?_cons_zero, List.getElem?_cons_succ, List.set_cons_zero, List.set_cons_succ, List.getElem?_nil, if_true, reduceIte, Bool.false_eq_true, belows, below, Nat.le_refl, reduceCtorEq, e_lc, k_lc, k_lc2, e_yes, l_nil, l_cons, k_l1, k_l2t, k_l2f, k_l3, e_r1, k_r1N, e_en, k_enL, k_enT, e_mkE, k_mkE, e_erF, k_erF, e_isE, wipeM])
theorem of_ok {k : Int} (hk : k ≤ 1000000000) {h : MH} {n : Nat} {o : MO} (hn : h[n]? = some o) (hb : IsBag k o) {xs : List MV} (h0 : 0 < xs.length) (h1 : xs.length ≤ 1000000) :
    ∃ v o', F__law_of [.ref n, .lst xs] h = .ok v (h.set n o') ∧ v ∈ xs ∧ IsBag (k + 1) o' := by
  obtain ⟨r, o', e, r0, r1, hb'⟩ := draw_ok hk hn hb (z := (xs.length : Int)) (by omega) (by
    show (xs.length : Int).natAbs.log2 < 9000
    exact Nat.lt_trans (PySem.Flt.log2_lt_of (k := 64) (by decide) (by omega)) (by decide))
  have hi : r.toNat < xs.length := by omega
  have ha : atI xs r = some (xs[r.toNat]) := at_get r0 (List.getElem?_eq_getElem hi)
  refine ⟨_, o', ?_, List.getElem_mem hi, hb'⟩
  unfold F__law_of
  simp only [e, ha, e_fun, finR_rt, finR_nx, finR_exc, fin_raw, finX_raw, List.map_cons, List.map_nil, List.replicate_succ, List.replicate_zero, List.cons_append, List.nil_append, List.append_nil, List.length_cons, List.length_nil, Nat.zero_add, Nat.reduceAdd, Nat.reduceLeDiff, Nat.reduceLT, Nat.zero_lt_succ, Nat.add_one_pos,  String.reduceBEq, v_isiS, v_isiI, v_isiB, v_isiT, v_isiL, isiR_some, tyM, subT,
  e_var, getS_val, e_k, e_nil, e_cons, k_cons1, k_cons1x, k_cons2, k_cons2x, e_tup, k_tup, k_tupx, e_lst, k_lst, k_lstx, e_op, k_op1, k_op1x, k_op2, k_op2x, e_test, asB_ok, asB_x, noX_ok, e_chain, k_ch1, k_ch2, k_ch3t, k_ch3f, e_and, k_andt, k_andf, e_or, k_ort, k_orf, e_not, k_not, e_if, k_ift, k_iff,
  e_tand, k_tandt, k_tandf, e_tor, k_tort, k_torf, e_tnot, k_tnot, e_tru, k_tru, k_trux, onRef_lst, blR_t, truR_some, tru_bl, tru_int, tru_lst, tru_tup, e_cb, k_cb, k_cbx, e_on1, e_on2, e_call, k_call, k_callx, e_neg, k_neg, e_lm, k_lm, k_lm2, k_lm2x, e_sm, k_sm, e_pn, e_ps, k_ps, e_sl, k_sl1, k_sl2, k_sl3, e_rev, k_rev,
  e_errF, e_errIs, k_errF, k_errIs, opR_some, e_seq, seqS_nx, seqS_rt, seqS_bk, seqS_ct, seqS_exc, e_nx, e_bk, e_ct, e_drop, k_drop, k_dropx, e_ret, k_ret, k_retx, e_retN, e_ifS, k_ifSt, k_ifSf, k_ifSx, e_set, k_set, k_setx, e_asg, k_asg, k_asgx, k_asg2, e_par, k_par, e_gn, e_gs0, e_gs1, k_gs, e_gtp, e_sb, k_sb1, k_sb2,
  e_raise, k_raise, e_it, k_it, e_for, k_for, run_nil, run_cons, k_turn, k_turnN, k_turnC, k_turnB, k_turnR, k_turnX, src_str, src_tup, src_lst, src_scr, e_try, k_try, k_tryx, k_catch0, k_catchT, k_catchF, k_goneR,
  v_newT, v_newL, v_newR, v_addI, v_addL, v_addT, v_addRL, v_dif, v_eqS, v_eqI, v_neS, v_neI, v_inT, v_inL, v_niT, v_niL, v_isn, v_is, nonM, v_lenL, v_lenT, v_lenC, v_lenR, v_abs, v_intI, v_intB, v_max, v_min, v_listL, v_listT, v_listR, v_tupL, v_tupT, v_tupR, v_ltI, v_leI, v_gtI, v_geI, v_cutC, v_cutL, v_cutT, v_cutR, v_revL, v_app, v_inR, v_ixL, v_ixT, v_ixC, v_ixR,
  at_lit, at_last, ix_lit, v_mulN, v_mulM, v_mulL0, v_mulL1, Nat.zero_le, v_divN, v_powN, v_mod, sbO_some, v_sb, v_pop0, pop0_cons, Int.reduceLT, Int.reduceLE, Int.reducePow, Int.reduceNeg, Int.reduceAdd, Int.reduceSub, Int.reduceMul, h_last, h_set, fin_app, fin_self, setR_some, set_tup, set_lst, set_ref, setO_lst, Nat.lt_irrefl,
  flatM, inF_nil, inF_cons, eqF, List.all_cons, List.all_nil, List.any_cons, List.any_nil, str_beq, str_lit, String.reduceEq, decide_true, decide_false, decide_eq_true_eq, Bool.and_true, Bool.true_and, Bool.and_false, Bool.false_and, Bool.or_true, Bool.true_or, Bool.or_false, Bool.false_or, Bool.not_true, Bool.not_false, Bool.and_self, Bool.or_self,
  List.getElem?_cons_zero, List.getElem?_cons_succ, List.set_cons_zero, List.set_cons_succ, List.getElem?_nil, if_true, reduceIte, Bool.false_eq_true, belows, below, Nat.le_refl, reduceCtorEq, e_lc, k_lc, k_lc2, e_yes, l_nil, l_cons, k_l1, k_l2t, k_l2f, k_l3, e_r1, k_r1N, e_en, k_enL, k_enT, e_mkE, k_mkE, e_erF, k_erF, e_isE, wipeM]
/-- what the objects are like -/
def Thing (v : MV) : Prop := ∃ d, datV v = some d ∧ fine d = true ∧ d.depth ≤ 5 ∧ G.wt d ≤ 1000 ∧ below 0 v = true
theorem depthAll_le {k : Nat} : ∀ ds : List PyData, (∀ d ∈ ds, d.depth ≤ k) → PyData.depthAll ds ≤ k
  | [], _ => by simp [PyData.depthAll]
  | d :: r, h => by
    simp only [PyData.depthAll]
    exact Nat.max_le.mpr ⟨h d List.mem_cons_self, depthAll_le r fun e he => h e (List.mem_cons_of_mem _ he)⟩
theorem wtAll_le {k : Nat} : ∀ ds : List PyData, (∀ d ∈ ds, G.wt d ≤ k) → G.wtAll ds ≤ ds.length * (k + 2)
  | [], _ => by simp [G.wtAll]
  | d :: r, h => by
    simp only [G.wtAll, List.length_cons, Nat.succ_mul]
    have h1 := h d List.mem_cons_self
    have h2 := wtAll_le r fun e he => h e (List.mem_cons_of_mem _ he)
    omega
theorem rep_told {a b c : MV} (ha : Thing a) (hb : Thing b) (hc : Thing c) : ∃ x : Str, ∀ h, fRepr (.lst (toldL a b c)) h = .ok (.str x) h := by
  obtain ⟨da, a1, a2, a3, a4, _⟩ := ha
  obtain ⟨db, b1, b2, b3, b4, _⟩ := hb
  obtain ⟨dc, c1, c2, c3, c4, _⟩ := hc
  have e : ∃ d, datV (.lst (toldL a b c)) = some d ∧ Fine d := by
    unfold toldL
    simp only [datV, datVs, a1, b1, c1, Option.bind_some, Option.map_some]
    refine ⟨_, rfl, ?_, ?_, ?_⟩
    · simp only [fine, fineAll, a2, b2, c2, Bool.and_true]
    · have l1 : ∀ ds : List PyData, (∀ d ∈ ds, d.depth ≤ 5) → (PyData.list ds).depth ≤ 6 := fun ds h => by
        simp only [PyData.depth]
        exact Nat.succ_le_succ (depthAll_le ds h)
      have m1 : (PyData.list [da]).depth ≤ 6 := l1 _ (by simpa using a3)
      have m2 : (PyData.list [da, db]).depth ≤ 6 := l1 _ (by simp [a3, b3])
      have m3 : (PyData.list [da, db, dc]).depth ≤ 6 := l1 _ (by simp [a3, b3, c3])
      have l2 : ∀ ds : List PyData, (∀ d ∈ ds, d.depth ≤ 6) → (PyData.list ds).depth ≤ 40 := fun ds h => by
        simp only [PyData.depth]
        exact Nat.le_trans (Nat.succ_le_succ (depthAll_le ds h)) (by decide)
      refine l2 _ ?_
      simp only [List.forall_mem_cons, m1, m2, m3, true_and]
      exact fun _ z => nomatch z
    · have l1 : ∀ ds : List PyData, (∀ d ∈ ds, G.wt d ≤ 1000) → ds.length ≤ 3 → G.wt (PyData.list ds) ≤ 4000 := fun ds h hl => by
        simp only [G.wt]
        have := wtAll_le ds h
        omega
      have m1 : G.wt (PyData.list [da]) ≤ 4000 := l1 _ (by simpa using a4) (by simp)
      have m2 : G.wt (PyData.list [da, db]) ≤ 4000 := l1 _ (by simp [a4, b4]) (by simp)
      have m3 : G.wt (PyData.list [da, db, dc]) ≤ 4000 := l1 _ (by simp [a4, b4, c4]) (by simp)
      have l2 : ∀ ds : List PyData, (∀ d ∈ ds, G.wt d ≤ 4000) → ds.length ≤ 30 → G.wt (PyData.list ds) ≤ 1000000 := fun ds h hl => by
        simp only [G.wt]
        have := wtAll_le ds h
        omega
      refine l2 _ ?_ (by simp)
      simp only [List.forall_mem_cons, m1, m2, m3, true_and]
      exact fun _ z => nomatch z
  obtain ⟨d, e, f⟩ := e
  refine ⟨d.shown, fun h => ?_⟩
  rw [v_repr, dat_of e]
  exact shR_fine h f
def manyL : List MV := [.int 1, .int 2, .int 1, .int 1, .int 1, .int 1, .int 1, .int 1, .int 1, .int 1, .int 1, .int 1, .int 1, .int 1, .int 1, .int 1, .int 1, .int 1, .int 1, .int 1, .int 1, .int 2, .int 1, .int 1, .int 1, .int 3, .int 2]
theorem want_ok {h : MH} {n : Nat} (hn : h[n]? = some (.lst manyL)) (u0 u1 u2 u3 u4 u5 : MV) (t0 : Thing u0) (t1 : Thing u1) (t2 : Thing u2) (s0 s1 s2 s3 s5 s6 s10 s11 s12 s13 s14 s15 s16 : Sl) :
    ∃ t10, B_law_1 [s0, s1, s2, s3, .val (.lst [u0, u1, u2, u3, u4, u5]), s5, s6, .val (.ref n), .val (.int 0), .val (.lst (madeL u0 u1 u2)), s10, s11, s12, s13, s14, s15, s16] h = .ok .nx [s0, s1, s2, s3, .val (.lst [u0, u1, u2, u3, u4, u5]), s5, s6, .val (.ref n), .val (.int 0), .val (.lst (madeL u0 u1 u2)), t10, s11, s12, s13, s14, s15, s16] h := by
  have c1 : cutM [u0, u1, u2, u3, u4, u5] (some 0) (some 1) = [u0] := rfl
  have c2 : cutM [u0, u1, u2, u3, u4, u5] (some 0) (some 2) = [u0, u1] := rfl
  have c3 : cutM [u0, u1, u2, u3, u4, u5] (some 0) (some 3) = [u0, u1, u2] := rfl
  rw [B_law_1_eq]
  unfold manyL at hn
  obtain ⟨x, hx⟩ := rep_told t0 t1 t2
  unfold toldL at hx
  simp only [hx, toldL, src_ref _ _ hn, told_ok, c1, c2, c3, l_nilR _ _ _ _ _ _ _ hn, l_consR _ _ _ _ _ _ _ _ _ hn, e_fun, finR_rt, finR_nx, finR_exc, fin_raw, finX_raw, List.map_cons, List.map_nil, List.replicate_succ, List.replicate_zero, List.cons_append, List.nil_append, List.append_nil, List.length_cons, List.length_nil, Nat.zero_add, Nat.reduceAdd, Nat.reduceLeDiff, Nat.reduceLT, Nat.zero_lt_succ, Nat.add_one_pos,  String.reduceBEq, v_isiS, v_isiI, v_isiB, v_isiT, v_isiL, isiR_some, tyM, subT,
  e_var, getS_val, e_k, e_nil, e_cons, k_cons1, k_cons1x, k_cons2, k_cons2x, e_tup, k_tup, k_tupx, e_lst, k_lst, k_lstx, e_op, k_op1, k_op1x, k_op2, k_op2x, e_test, asB_ok, asB_x, noX_ok, e_chain, k_ch1, k_ch2, k_ch3t, k_ch3f, e_and, k_andt, k_andf, e_or, k_ort, k_orf, e_not, k_not, e_if, k_ift, k_iff,
  e_tand, k_tandt, k_tandf, e_tor, k_tort, k_torf, e_tnot, k_tnot, e_tru, k_tru, k_trux, onRef_lst, blR_t, truR_some, tru_bl, tru_int, tru_lst, tru_tup, e_cb, k_cb, k_cbx, e_on1, e_on2, e_call, k_call, k_callx, e_neg, k_neg, e_lm, k_lm, k_lm2, k_lm2x, e_sm, k_sm, e_pn, e_ps, k_ps, e_sl, k_sl1, k_sl2, k_sl3, e_rev, k_rev,
  e_errF, e_errIs, k_errF, k_errIs, opR_some, e_seq, seqS_nx, seqS_rt, seqS_bk, seqS_ct, seqS_exc, e_nx, e_bk, e_ct, e_drop, k_drop, k_dropx, e_ret, k_ret, k_retx, e_retN, e_ifS, k_ifSt, k_ifSf, k_ifSx, e_set, k_set, k_setx, e_asg, k_asg, k_asgx, k_asg2, e_par, k_par, e_gn, e_gs0, e_gs1, k_gs, e_gtp, e_sb, k_sb1, k_sb2,
  e_raise, k_raise, e_it, k_it, e_for, k_for, run_nil, run_cons, k_turn, k_turnN, k_turnC, k_turnB, k_turnR, k_turnX, src_str, src_tup, src_lst, src_scr, e_try, k_try, k_tryx, k_catch0, k_catchT, k_catchF, k_goneR,
  v_newT, v_newL, v_newR, v_addI, v_addL, v_addT, v_addRL, v_dif, v_eqS, v_eqI, v_neS, v_neI, v_inT, v_inL, v_niT, v_niL, v_isn, v_is, nonM, v_lenL, v_lenT, v_lenC, v_lenR, v_abs, v_intI, v_intB, v_max, v_min, v_listL, v_listT, v_listR, v_tupL, v_tupT, v_tupR, v_ltI, v_leI, v_gtI, v_geI, v_cutC, v_cutL, v_cutT, v_cutR, v_revL, v_app, v_inR, v_ixL, v_ixT, v_ixC, v_ixR,
  at_lit, at_last, ix_lit, v_mulN, v_mulM, v_mulL0, v_mulL1, Nat.zero_le, v_divN, v_powN, v_mod, sbO_some, v_sb, v_pop0, pop0_cons, Int.reduceLT, Int.reduceLE, Int.reducePow, Int.reduceNeg, Int.reduceAdd, Int.reduceSub, Int.reduceMul, h_last, h_set, fin_app, fin_self, setR_some, set_tup, set_lst, set_ref, setO_lst, Nat.lt_irrefl,
  flatM, inF_nil, inF_cons, eqF, List.all_cons, List.all_nil, List.any_cons, List.any_nil, str_beq, str_lit, String.reduceEq, decide_true, decide_false, decide_eq_true_eq, Bool.and_true, Bool.true_and, Bool.and_false, Bool.false_and, Bool.or_true, Bool.true_or, Bool.or_false, Bool.false_or, Bool.not_true, Bool.not_false, Bool.and_self, Bool.or_self,
  List.getElem?_cons_zero, List.getElem?_cons_succ, List.set_cons_zero, List.set_cons_succ, List.getElem?_nil, if_true, reduceIte, Bool.false_eq_true, belows, below, Nat.le_refl, reduceCtorEq, e_lc, k_lc, k_lc2, e_yes, l_nil, l_cons, k_l1, k_l2t, k_l2f, k_l3, e_r1, k_r1N, e_en, k_enL, k_enT, e_mkE, k_mkE, e_erF, k_erF, e_isE, wipeM]
  exact ⟨_, rfl⟩
end L
set_option Elab.async false
set_option linter.all false
set_option maxRecDepth 100000
set_option maxHeartbeats 4000000
namespace L
open PySem PySem.Spec L2 G M
local macro_rules | `(tactic| walk_at "ev") => `(tactic| simp only [e_fun, finR_rt, finR_nx, finR_exc, fin_raw, finX_raw, List.map_cons, List.map_nil, List.replicate_succ, List.replicate_zero, List.cons_append, List.nil_append, List.append_nil, List.length_cons, List.length_nil, Nat.zero_add, Nat.reduceAdd, Nat.reduceLeDiff, Nat.reduceLT, Nat.zero_lt_succ, Nat.add_one_pos,  String.reduceBEq, v_isiS, v_isiI, v_isiB, v_isiT, v_isiL, isiR_some, tyM, subT,
  e_var, getS_val, e_k, e_nil, e_cons, k_cons1, k_cons1x, k_cons2, k_cons2x, e_tup, k_tup, k_tupx, e_lst, k_lst, k_lstx, e_op, k_op1, k_op1x, k_op2, k_op2x, e_test, asB_ok, asB_x, noX_ok, e_chain, k_ch1, k_ch2, k_ch3t, k_ch3f, e_and, k_andt, k_andf, e_or, k_ort, k_orf, e_not, k_not, e_if, k_ift, k_iff,
  e_tand, k_tandt, k_tandf, e_tor, k_tort, k_torf, e_tnot, k_tnot, e_tru, k_tru, k_trux, onRef_lst, blR_t, truR_some, tru_bl, tru_int, tru_lst, tru_tup, e_cb, k_cb, k_cbx, e_on1, e_on2, e_call, k_call, k_callx, e_neg, k_neg, e_lm, k_lm, k_lm2, k_lm2x, e_sm, k_sm, e_pn, e_ps, k_ps, e_sl, k_sl1, k_sl2, k_sl3, e_rev, k_rev,
  e_errF, e_errIs, k_errF, k_errIs, opR_some, e_seq, seqS_nx, seqS_rt, seqS_bk, seqS_ct, seqS_exc, e_nx, e_bk, e_ct, e_drop, k_drop, k_dropx, e_ret, k_ret, k_retx, e_retN, e_ifS, k_ifSt, k_ifSf, k_ifSx, e_set, k_set, k_setx, e_asg, k_asg, k_asgx, k_asg2, e_par, k_par, e_gn, e_gs0, e_gs1, k_gs, e_gtp, e_sb, k_sb1, k_sb2,
  e_raise, k_raise, e_it, k_it, e_for, k_for, run_nil, run_cons, k_turn, k_turnN, k_turnC, k_turnB, k_turnR, k_turnX, src_str, src_tup, src_lst, src_scr, e_try, k_try, k_tryx, k_catch0, k_catchT, k_catchF, k_goneR,
  v_newT, v_newL, v_newR, v_addI, v_addL, v_addT, v_addRL, v_dif, v_eqS, v_eqI, v_neS, v_neI, v_inT, v_inL, v_niT, v_niL, v_isn, v_is, nonM, v_lenL, v_lenT, v_lenC, v_lenR, v_abs, v_intI, v_intB, v_max, v_min, v_listL, v_listT, v_listR, v_tupL, v_tupT, v_tupR, v_ltI, v_leI, v_gtI, v_geI, v_cutC, v_cutL, v_cutT, v_cutR, v_revL, v_app, v_inR, v_ixL, v_ixT, v_ixC, v_ixR,
  at_lit, at_last, ix_lit, v_mulN, v_mulM, v_mulL0, v_mulL1, Nat.zero_le, v_divN, v_powN, v_mod, sbO_some, v_sb, v_pop0, pop0_cons, Int.reduceLT, Int.reduceLE, Int.reducePow, Int.reduceNeg, Int.reduceAdd, Int.reduceSub, Int.reduceMul, h_last, h_set, fin_app, fin_self, setR_some, set_tup, set_lst, set_ref, setO_lst, Nat.lt_irrefl,
  flatM, inF_nil, inF_cons, eqF, List.all_cons, List.all_nil, List.any_cons, List.any_nil, str_beq, str_lit, String.reduceEq, decide_true, decide_false, decide_eq_true_eq, Bool.and_true, Bool.true_and, Bool.and_false, Bool.false_and, Bool.or_true, Bool.true_or, Bool.or_false, Bool.false_or, Bool.not_true, Bool.not_false, Bool.and_self, Bool.or_self,
  List.getElem?_cons_zero, List.getElem?_cons_succ, List.set_cons_zero, List.set_cons_succ, List.getElem?_nil, if_true, reduceIte, Bool.false_eq_true, belows, below, Nat.le_refl, reduceCtorEq, e_lc, k_lc, k_lc2, e_yes, l_nil, l_cons, k_l1, k_l2t, k_l2f, k_l3, e_r1, k_r1N, e_en, k_enL, k_enT, e_mkE, k_mkE, e_erF, k_erF, e_isE, wipeM])
local macro_rules | `(tactic| walk_at "evs") => `(tactic| simp only [*, e_fun, finR_rt, finR_nx, finR_exc, fin_raw, finX_raw, List.map_cons, List.map_nil, List.replicate_succ, List.replicate_zero, List.cons_append, List.nil_append, List.append_nil, List.length_cons, List.length_nil, Nat.zero_add, Nat.reduceAdd, Nat.reduceLeDiff, Nat.reduceLT, Nat.zero_lt_succ, Nat.add_one_pos,  String.reduceBEq, v_isiS, v_isiI, v_isiB, v_isiT, v_isiL, isiR_some, tyM, subT,
  e_var, getS_val, e_k, e_nil, e_cons, k_cons1, k_cons1x, k_cons2, k_cons2x, e_tup, k_tup, k_tupx, e_lst, k_lst, k_lstx, e_op, k_op1, k_op1x, k_op2, k_op2x, e_test, asB_ok, asB_x, noX_ok, e_chain, k_ch1, k_ch2, k_ch3t, k_ch3f, e_and, k_andt, k_andf, e_or, k_ort, k_orf, e_not, k_not, e_if, k_ift, k_iff,
  e_tand, k_tandt, k_tandf, e_tor, k_tort, k_torf, e_tnot, k_tnot, e_tru, k_tru, k_trux, onRef_lst, blR_t, truR_some, tru_bl, tru_int, tru_lst, tru_tup, e_cb, k_cb, k_cbx, e_on1, e_on2, e_call, k_call, k_callx, e_neg, k_neg, e_lm, k_lm, k_lm2, k_lm2x, e_sm, k_sm, e_pn, e_ps, k_ps, e_sl, k_sl1, k_sl2, k_sl3, e_rev, k_rev,
  e_errF, e_errIs, k_errF, k_errIs, opR_some, e_seq, seqS_nx, seqS_rt, seqS_bk, seqS_ct, seqS_exc, e_nx, e_bk, e_ct, e_drop, k_drop, k_dropx, e_ret, k_ret, k_retx, e_retN, e_ifS, k_ifSt, k_ifSf, k_ifSx, e_set, k_set, k_setx, e_asg, k_asg, k_asgx, k_asg2, e_par, k_par, e_gn, e_gs0, e_gs1, k_gs, e_gtp, e_sb, k_sb1, k_sb2,
  e_raise, k_raise, e_it, k_it, e_for, k_for, run_nil, run_cons, k_turn, k_turnN, k_turnC, k_turnB, k_turnR, k_turnX, src_str, src_tup, src_lst, src_scr, e_try, k_try, k_tryx, k_catch0, k_catchT, k_catchF, k_goneR,
  v_newT, v_newL, v_newR, v_addI, v_addL, v_addT, v_addRL, v_dif, v_eqS, v_eqI, v_neS, v_neI, v_inT, v_inL, v_niT, v_niL, v_isn, v_is, nonM, v_lenL, v_lenT, v_lenC, v_lenR, v_abs, v_intI, v_intB, v_max, v_min, v_listL, v_listT, v_listR, v_tupL, v_tupT, v_tupR, v_ltI, v_leI, v_gtI, v_geI, v_cutC, v_cutL, v_cutT, v_cutR, v_revL, v_app, v_inR, v_ixL, v_ixT, v_ixC, v_ixR,
  at_lit, at_last, ix_lit, v_mulN, v_mulM, v_mulL0, v_mulL1, Nat.zero_le, v_divN, v_powN, v_mod, sbO_some, v_sb, v_pop0, pop0_cons, Int.reduceLT, Int.reduceLE, Int.reducePow, Int.reduceNeg, Int.reduceAdd, Int.reduceSub, Int.reduceMul, h_last, h_set, fin_app, fin_self, setR_some, set_tup, set_lst, set_ref, setO_lst, Nat.lt_irrefl,
  flatM, inF_nil, inF_cons, eqF, List.all_cons, List.all_nil, List.any_cons, List.any_nil, str_beq, str_lit, String.reduceEq, decide_true, decide_false, decide_eq_true_eq, Bool.and_true, Bool.true_and, Bool.and_false, Bool.false_and, Bool.or_true, Bool.true_or, Bool.or_false, Bool.false_or, Bool.not_true, Bool.not_false, Bool.and_self, Bool.or_self,
  List.getElem?_cons_zero, List.getElem?_cons_succ, List.set_cons_zero, List.set_cons_succ, List.getElem?_nil, if_true, reduceIte, Bool.false_eq_true, belows, below, Nat.le_refl, reduceCtorEq, e_lc, k_lc, k_lc2, e_yes, l_nil, l_cons, k_l1, k_l2t, k_l2f, k_l3, e_r1, k_r1N, e_en, k_enL, k_enT, e_mkE, k_mkE, e_erF, k_erF, e_isE, wipeM])
theorem want2 {h : MH} {n : Nat} (hn : h[n]? = some (.lst manyL)) (u0 u1 u2 u3 u4 u5 : MV) (t0 : Thing u3) (t1 : Thing u4) (t2 : Thing u5) (s0 s1 s2 s3 s5 s6 s10 s11 s12 s13 s14 s15 s16 : Sl) :
    ∃ t10, B_law_1 [s0, s1, s2, s3, .val (.lst [u0, u1, u2, u3, u4, u5]), s5, s6, .val (.ref n), .val (.int 3), .val (.lst (madeL u3 u4 u5)), s10, s11, s12, s13, s14, s15, s16] h = .ok .nx [s0, s1, s2, s3, .val (.lst [u0, u1, u2, u3, u4, u5]), s5, s6, .val (.ref n), .val (.int 3), .val (.lst (madeL u3 u4 u5)), t10, s11, s12, s13, s14, s15, s16] h := by
  have c1 : cutM [u0, u1, u2, u3, u4, u5] (some 3) (some 4) = [u3] := rfl
  have c2 : cutM [u0, u1, u2, u3, u4, u5] (some 3) (some 5) = [u3, u4] := rfl
  have c3 : cutM [u0, u1, u2, u3, u4, u5] (some 3) (some 6) = [u3, u4, u5] := rfl
  rw [B_law_1_eq]
  unfold manyL at hn
  obtain ⟨x, hx⟩ := rep_told t0 t1 t2
  unfold toldL at hx
  simp only [hx, toldL, src_ref _ _ hn, told_ok, c1, c2, c3, l_nilR _ _ _ _ _ _ _ hn, l_consR _ _ _ _ _ _ _ _ _ hn, e_fun, finR_rt, finR_nx, finR_exc, fin_raw, finX_raw, List.map_cons, List.map_nil, List.replicate_succ, List.replicate_zero, List.cons_append, List.nil_append, List.append_nil, List.length_cons, List.length_nil, Nat.zero_add, Nat.reduceAdd, Nat.reduceLeDiff, Nat.reduceLT, Nat.zero_lt_succ, Nat.add_one_pos,  String.reduceBEq, v_isiS, v_isiI, v_isiB, v_isiT, v_isiL, isiR_some, tyM, subT,
  e_var, getS_val, e_k, e_nil, e_cons, k_cons1, k_cons1x, k_cons2, k_cons2x, e_tup, k_tup, k_tupx, e_lst, k_lst, k_lstx, e_op, k_op1, k_op1x, k_op2, k_op2x, e_test, asB_ok, asB_x, noX_ok, e_chain, k_ch1, k_ch2, k_ch3t, k_ch3f, e_and, k_andt, k_andf, e_or, k_ort, k_orf, e_not, k_not, e_if, k_ift, k_iff,
  e_tand, k_tandt, k_tandf, e_tor, k_tort, k_torf, e_tnot, k_tnot, e_tru, k_tru, k_trux, onRef_lst, blR_t, truR_some, tru_bl, tru_int, tru_lst, tru_tup, e_cb, k_cb, k_cbx, e_on1, e_on2, e_call, k_call, k_callx, e_neg, k_neg, e_lm, k_lm, k_lm2, k_lm2x, e_sm, k_sm, e_pn, e_ps, k_ps, e_sl, k_sl1, k_sl2, k_sl3, e_rev, k_rev,
  e_errF, e_errIs, k_errF, k_errIs, opR_some, e_seq, seqS_nx, seqS_rt, seqS_bk, seqS_ct, seqS_exc, e_nx, e_bk, e_ct, e_drop, k_drop, k_dropx, e_ret, k_ret, k_retx, e_retN, e_ifS, k_ifSt, k_ifSf, k_ifSx, e_set, k_set, k_setx, e_asg, k_asg, k_asgx, k_asg2, e_par, k_par, e_gn, e_gs0, e_gs1, k_gs, e_gtp, e_sb, k_sb1, k_sb2,
  e_raise, k_raise, e_it, k_it, e_for, k_for, run_nil, run_cons, k_turn, k_turnN, k_turnC, k_turnB, k_turnR, k_turnX, src_str, src_tup, src_lst, src_scr, e_try, k_try, k_tryx, k_catch0, k_catchT, k_catchF, k_goneR,
  v_newT, v_newL, v_newR, v_addI, v_addL, v_addT, v_addRL, v_dif, v_eqS, v_eqI, v_neS, v_neI, v_inT, v_inL, v_niT, v_niL, v_isn, v_is, nonM, v_lenL, v_lenT, v_lenC, v_lenR, v_abs, v_intI, v_intB, v_max, v_min, v_listL, v_listT, v_listR, v_tupL, v_tupT, v_tupR, v_ltI, v_leI, v_gtI, v_geI, v_cutC, v_cutL, v_cutT, v_cutR, v_revL, v_app, v_inR, v_ixL, v_ixT, v_ixC, v_ixR,
  at_lit, at_last, ix_lit, v_mulN, v_mulM, v_mulL0, v_mulL1, Nat.zero_le, v_divN, v_powN, v_mod, sbO_some, v_sb, v_pop0, pop0_cons, Int.reduceLT, Int.reduceLE, Int.reducePow, Int.reduceNeg, Int.reduceAdd, Int.reduceSub, Int.reduceMul, h_last, h_set, fin_app, fin_self, setR_some, set_tup, set_lst, set_ref, setO_lst, Nat.lt_irrefl,
  flatM, inF_nil, inF_cons, eqF, List.all_cons, List.all_nil, List.any_cons, List.any_nil, str_beq, str_lit, String.reduceEq, decide_true, decide_false, decide_eq_true_eq, Bool.and_true, Bool.true_and, Bool.and_false, Bool.false_and, Bool.or_true, Bool.true_or, Bool.or_false, Bool.false_or, Bool.not_true, Bool.not_false, Bool.and_self, Bool.or_self,
  List.getElem?_cons_zero, List.getElem?_cons_succ, List.set_cons_zero, List.set_cons_succ, List.getElem?_nil, if_true, reduceIte, Bool.false_eq_true, belows, below, Nat.le_refl, reduceCtorEq, e_lc, k_lc, k_lc2, e_yes, l_nil, l_cons, k_l1, k_l2t, k_l2f, k_l3, e_r1, k_r1N, e_en, k_enL, k_enT, e_mkE, k_mkE, e_erF, k_erF, e_isE, wipeM]
  exact ⟨_, rfl⟩
theorem enum27 (a b c : MV) : enumM (madeL a b c) = [.tup [.int 0, (.er "NoRow" [("row", a)])], .tup [.int 1, (.er "NoPlace" [("lst", a), ("place", b)])], .tup [.int 2, (.er "NoHandler" [("name", a)])], .tup [.int 3, (.er "BadName" [("name", a)])], .tup [.int 4, (.er "BadPlace" [("place", a)])], .tup [.int 5, (.er "BadSlide" [("index", a)])], .tup [.int 6, (.er "NoInverse" [("slide", a)])], .tup [.int 7, (.er "Twice" [("row", a)])], .tup [.int 8, (.er "BadOperation" [("op", a)])], .tup [.int 9, (.er "BadCall" [("argument", a)])], .tup [.int 10, (.er "BadVisit" [("visit", a)])], .tup [.int 11, (.er "BadLine" [("line", a)])], .tup [.int 12, (.er "BadStep" [("index", a)])], .tup [.int 13, (.er "BadText" [("index", a)])], .tup [.int 14, (.er "BadWorld" [("world", a)])], .tup [.int 15, (.er "BadNumber" [("name", a)])], .tup [.int 16, (.er "BadSpot" [("spot", a)])], .tup [.int 17, (.er "BadBound" [("index", a)])], .tup [.int 18, (.er "BadKind" [("kind", a)])], .tup [.int 19, (.er "OtherOperation" [("op", a)])], .tup [.int 20, (.er "BadOrder" [("order", a)])], .tup [.int 21, (.er "BadPair" [("first", a), ("second", b)])], .tup [.int 22, (.er "BadRule" [("rule", a)])], .tup [.int 23, (.er "BadMend" [("mend", a)])], .tup [.int 24, (.er "TooMany" [("limit", a)])], .tup [.int 25, (.er "Clash" [("step", a), ("row", b), ("other", c)])], .tup [.int 26, (.er "CallFailed" [("index", a), ("reason", b)])]] := by rfl
theorem last_ok (a b c : MV) (s0 s1 s2 s3 s4 s5 s6 s7 s8 s9 s10 s11 s12 s13 s14 s15 s16 : Sl) (h : MH) : ∃ t11 t12 t13, runF ⟨enumM (madeL a b c), none⟩ (gTp 2 (gs1 (gN 11) (gs1 (gN 12) gs0))) B_law_2 (enumM (madeL a b c)) [s0, s1, s2, s3, s4, s5, s6, s7, s8, s9, s10, s11, s12, s13, s14, s15, s16] h = .ok .nx [s0, s1, s2, s3, s4, s5, s6, s7, s8, s9, s10, t11, t12, t13, s14, s15, s16] h := by
  simp only [enum27, turn_NoRow, turn_NoPlace, turn_NoHandler, turn_BadName, turn_BadPlace, turn_BadSlide, turn_NoInverse, turn_Twice, turn_BadOperation, turn_BadCall, turn_BadVisit, turn_BadLine, turn_BadStep, turn_BadText, turn_BadWorld, turn_BadNumber, turn_BadSpot, turn_BadBound, turn_BadKind, turn_OtherOperation, turn_BadOrder, turn_BadPair, turn_BadRule, turn_BadMend, turn_TooMany, turn_Clash, turn_CallFailed, e_fun, finR_rt, finR_nx, finR_exc, fin_raw, finX_raw, List.map_cons, List.map_nil, List.replicate_succ, List.replicate_zero, List.cons_append, List.nil_append, List.append_nil, List.length_cons, List.length_nil, Nat.zero_add, Nat.reduceAdd, Nat.reduceLeDiff, Nat.reduceLT, Nat.zero_lt_succ, Nat.add_one_pos,  String.reduceBEq, v_isiS, v_isiI, v_isiB, v_isiT, v_isiL, isiR_some, tyM, subT,
  e_var, getS_val, e_k, e_nil, e_cons, k_cons1, k_cons1x, k_cons2, k_cons2x, e_tup, k_tup, k_tupx, e_lst, k_lst, k_lstx, e_op, k_op1, k_op1x, k_op2, k_op2x, e_test, asB_ok, asB_x, noX_ok, e_chain, k_ch1, k_ch2, k_ch3t, k_ch3f, e_and, k_andt, k_andf, e_or, k_ort, k_orf, e_not, k_not, e_if, k_ift, k_iff,
  e_tand, k_tandt, k_tandf, e_tor, k_tort, k_torf, e_tnot, k_tnot, e_tru, k_tru, k_trux, onRef_lst, blR_t, truR_some, tru_bl, tru_int, tru_lst, tru_tup, e_cb, k_cb, k_cbx, e_on1, e_on2, e_call, k_call, k_callx, e_neg, k_neg, e_lm, k_lm, k_lm2, k_lm2x, e_sm, k_sm, e_pn, e_ps, k_ps, e_sl, k_sl1, k_sl2, k_sl3, e_rev, k_rev,
  e_errF, e_errIs, k_errF, k_errIs, opR_some, e_seq, seqS_nx, seqS_rt, seqS_bk, seqS_ct, seqS_exc, e_nx, e_bk, e_ct, e_drop, k_drop, k_dropx, e_ret, k_ret, k_retx, e_retN, e_ifS, k_ifSt, k_ifSf, k_ifSx, e_set, k_set, k_setx, e_asg, k_asg, k_asgx, k_asg2, e_par, k_par, e_gn, e_gs0, e_gs1, k_gs, e_gtp, e_sb, k_sb1, k_sb2,
  e_raise, k_raise, e_it, k_it, e_for, k_for, run_nil, run_cons, k_turn, k_turnN, k_turnC, k_turnB, k_turnR, k_turnX, src_str, src_tup, src_lst, src_scr, e_try, k_try, k_tryx, k_catch0, k_catchT, k_catchF, k_goneR,
  v_newT, v_newL, v_newR, v_addI, v_addL, v_addT, v_addRL, v_dif, v_eqS, v_eqI, v_neS, v_neI, v_inT, v_inL, v_niT, v_niL, v_isn, v_is, nonM, v_lenL, v_lenT, v_lenC, v_lenR, v_abs, v_intI, v_intB, v_max, v_min, v_listL, v_listT, v_listR, v_tupL, v_tupT, v_tupR, v_ltI, v_leI, v_gtI, v_geI, v_cutC, v_cutL, v_cutT, v_cutR, v_revL, v_app, v_inR, v_ixL, v_ixT, v_ixC, v_ixR,
  at_lit, at_last, ix_lit, v_mulN, v_mulM, v_mulL0, v_mulL1, Nat.zero_le, v_divN, v_powN, v_mod, sbO_some, v_sb, v_pop0, pop0_cons, Int.reduceLT, Int.reduceLE, Int.reducePow, Int.reduceNeg, Int.reduceAdd, Int.reduceSub, Int.reduceMul, h_last, h_set, fin_app, fin_self, setR_some, set_tup, set_lst, set_ref, setO_lst, Nat.lt_irrefl,
  flatM, inF_nil, inF_cons, eqF, List.all_cons, List.all_nil, List.any_cons, List.any_nil, str_beq, str_lit, String.reduceEq, decide_true, decide_false, decide_eq_true_eq, Bool.and_true, Bool.true_and, Bool.and_false, Bool.false_and, Bool.or_true, Bool.true_or, Bool.or_false, Bool.false_or, Bool.not_true, Bool.not_false, Bool.and_self, Bool.or_self,
  List.getElem?_cons_zero, List.getElem?_cons_succ, List.set_cons_zero, List.set_cons_succ, List.getElem?_nil, if_true, reduceIte, Bool.false_eq_true, belows, below, Nat.le_refl, reduceCtorEq, e_lc, k_lc, k_lc2, e_yes, l_nil, l_cons, k_l1, k_l2t, k_l2f, k_l3, e_r1, k_r1N, e_en, k_enL, k_enT, e_mkE, k_mkE, e_erF, k_erF, e_isE, wipeM]
  exact ⟨_, _, _, rfl⟩
end L
set_option Elab.async false
set_option linter.all false
set_option maxRecDepth 100000
set_option maxHeartbeats 4000000
namespace L
open PySem PySem.Spec L2 G M
local macro_rules | `(tactic| walk_at "ev") => `(tactic| simp only [e_fun, finR_rt, finR_nx, finR_exc, fin_raw, finX_raw, List.map_cons, List.map_nil, List.replicate_succ, List.replicate_zero, List.cons_append, List.nil_append, List.append_nil, List.length_cons, List.length_nil, Nat.zero_add, Nat.reduceAdd, Nat.reduceLeDiff, Nat.reduceLT, Nat.zero_lt_succ, Nat.add_one_pos,  String.reduceBEq, v_isiS, v_isiI, v_isiB, v_isiT, v_isiL, isiR_some, tyM, subT,
  e_var, getS_val, e_k, e_nil, e_cons, k_cons1, k_cons1x, k_cons2, k_cons2x, e_tup, k_tup, k_tupx, e_lst, k_lst, k_lstx, e_op, k_op1, k_op1x, k_op2, k_op2x, e_test, asB_ok, asB_x, noX_ok, e_chain, k_ch1, k_ch2, k_ch3t, k_ch3f, e_and, k_andt, k_andf, e_or, k_ort, k_orf, e_not, k_not, e_if, k_ift, k_iff,
  e_tand, k_tandt, k_tandf, e_tor, k_tort, k_torf, e_tnot, k_tnot, e_tru, k_tru, k_trux, onRef_lst, blR_t, truR_some, tru_bl, tru_int, tru_lst, tru_tup, e_cb, k_cb, k_cbx, e_on1, e_on2, e_call, k_call, k_callx, e_neg, k_neg, e_lm, k_lm, k_lm2, k_lm2x, e_sm, k_sm, e_pn, e_ps, k_ps, e_sl, k_sl1, k_sl2, k_sl3, e_rev, k_rev,
  e_errF, e_errIs, k_errF, k_errIs, opR_some, e_seq, seqS_nx, seqS_rt, seqS_bk, seqS_ct, seqS_exc, e_nx, e_bk, e_ct, e_drop, k_drop, k_dropx, e_ret, k_ret, k_retx, e_retN, e_ifS, k_ifSt, k_ifSf, k_ifSx, e_set, k_set, k_setx, e_asg, k_asg, k_asgx, k_asg2, e_par, k_par, e_gn, e_gs0, e_gs1, k_gs, e_gtp, e_sb, k_sb1, k_sb2,
  e_raise, k_raise, e_it, k_it, e_for, k_for, run_nil, run_cons, k_turn, k_turnN, k_turnC, k_turnB, k_turnR, k_turnX, src_str, src_tup, src_lst, src_scr, e_try, k_try, k_tryx, k_catch0, k_catchT, k_catchF, k_goneR,
  v_newT, v_newL, v_newR, v_addI, v_addL, v_addT, v_addRL, v_dif, v_eqS, v_eqI, v_neS, v_neI, v_inT, v_inL, v_niT, v_niL, v_isn, v_is, nonM, v_lenL, v_lenT, v_lenC, v_lenR, v_abs, v_intI, v_intB, v_max, v_min, v_listL, v_listT, v_listR, v_tupL, v_tupT, v_tupR, v_ltI, v_leI, v_gtI, v_geI, v_cutC, v_cutL, v_cutT, v_cutR, v_revL, v_app, v_inR, v_ixL, v_ixT, v_ixC, v_ixR,
  at_lit, at_last, ix_lit, v_mulN, v_mulM, v_mulL0, v_mulL1, Nat.zero_le, v_divN, v_powN, v_mod, sbO_some, v_sb, v_pop0, pop0_cons, Int.reduceLT, Int.reduceLE, Int.reducePow, Int.reduceNeg, Int.reduceAdd, Int.reduceSub, Int.reduceMul, h_last, h_set, fin_app, fin_self, setR_some, set_tup, set_lst, set_ref, setO_lst, Nat.lt_irrefl,
  flatM, inF_nil, inF_cons, eqF, List.all_cons, List.all_nil, List.any_cons, List.any_nil, str_beq, str_lit, String.reduceEq, decide_true, decide_false, decide_eq_true_eq, Bool.and_true, Bool.true_and, Bool.and_false, Bool.false_and, Bool.or_true, Bool.true_or, Bool.or_false, Bool.false_or, Bool.not_true, Bool.not_false, Bool.and_self, Bool.or_self,
  List.getElem?_cons_zero, List.getElem?_cons_succ, List.set_cons_zero, List.set_cons_succ, List.getElem?_nil, if_true, reduceIte, Bool.false_eq_true, belows, below, Nat.le_refl, reduceCtorEq, e_lc, k_lc, k_lc2, e_yes, l_nil, l_cons, k_l1, k_l2t, k_l2f, k_l3, e_r1, k_r1N, e_en, k_enL, k_enT, e_mkE, k_mkE, e_erF, k_erF, e_isE, wipeM])
local macro_rules | `(tactic| walk_at "evs") => `(tactic| simp only [*, e_fun, finR_rt, finR_nx, finR_exc, fin_raw, finX_raw, List.map_cons, List.map_nil, List.replicate_succ, List.replicate_zero, List.cons_append, List.nil_append, List.append_nil, List.length_cons, List.length_nil, Nat.zero_add, Nat.reduceAdd, Nat.reduceLeDiff, Nat.reduceLT, Nat.zero_lt_succ, Nat.add_one_pos,  String.reduceBEq, v_isiS, v_isiI, v_isiB, v_isiT, v_isiL, isiR_some, tyM, subT,
  e_var, getS_val, e_k, e_nil, e_cons, k_cons1, k_cons1x, k_cons2, k_cons2x, e_tup, k_tup, k_tupx, e_lst, k_lst, k_lstx, e_op, k_op1, k_op1x, k_op2, k_op2x, e_test, asB_ok, asB_x, noX_ok, e_chain, k_ch1, k_ch2, k_ch3t, k_ch3f, e_and, k_andt, k_andf, e_or, k_ort, k_orf, e_not, k_not, e_if, k_ift, k_iff,
  e_tand, k_tandt, k_tandf, e_tor, k_tort, k_torf, e_tnot, k_tnot, e_tru, k_tru, k_trux, onRef_lst, blR_t, truR_some, tru_bl, tru_int, tru_lst, tru_tup, e_cb, k_cb, k_cbx, e_on1, e_on2, e_call, k_call, k_callx, e_neg, k_neg, e_lm, k_lm, k_lm2, k_lm2x, e_sm, k_sm, e_pn, e_ps, k_ps, e_sl, k_sl1, k_sl2, k_sl3, e_rev, k_rev,
  e_errF, e_errIs, k_errF, k_errIs, opR_some, e_seq, seqS_nx, seqS_rt, seqS_bk, seqS_ct, seqS_exc, e_nx, e_bk, e_ct, e_drop, k_drop, k_dropx, e_ret, k_ret, k_retx, e_retN, e_ifS, k_ifSt, k_ifSf, k_ifSx, e_set, k_set, k_setx, e_asg, k_asg, k_asgx, k_asg2, e_par, k_par, e_gn, e_gs0, e_gs1, k_gs, e_gtp, e_sb, k_sb1, k_sb2,
  e_raise, k_raise, e_it, k_it, e_for, k_for, run_nil, run_cons, k_turn, k_turnN, k_turnC, k_turnB, k_turnR, k_turnX, src_str, src_tup, src_lst, src_scr, e_try, k_try, k_tryx, k_catch0, k_catchT, k_catchF, k_goneR,
  v_newT, v_newL, v_newR, v_addI, v_addL, v_addT, v_addRL, v_dif, v_eqS, v_eqI, v_neS, v_neI, v_inT, v_inL, v_niT, v_niL, v_isn, v_is, nonM, v_lenL, v_lenT, v_lenC, v_lenR, v_abs, v_intI, v_intB, v_max, v_min, v_listL, v_listT, v_listR, v_tupL, v_tupT, v_tupR, v_ltI, v_leI, v_gtI, v_geI, v_cutC, v_cutL, v_cutT, v_cutR, v_revL, v_app, v_inR, v_ixL, v_ixT, v_ixC, v_ixR,
  at_lit, at_last, ix_lit, v_mulN, v_mulM, v_mulL0, v_mulL1, Nat.zero_le, v_divN, v_powN, v_mod, sbO_some, v_sb, v_pop0, pop0_cons, Int.reduceLT, Int.reduceLE, Int.reducePow, Int.reduceNeg, Int.reduceAdd, Int.reduceSub, Int.reduceMul, h_last, h_set, fin_app, fin_self, setR_some, set_tup, set_lst, set_ref, setO_lst, Nat.lt_irrefl,
  flatM, inF_nil, inF_cons, eqF, List.all_cons, List.all_nil, List.any_cons, List.any_nil, str_beq, str_lit, String.reduceEq, decide_true, decide_false, decide_eq_true_eq, Bool.and_true, Bool.true_and, Bool.and_false, Bool.false_and, Bool.or_true, Bool.true_or, Bool.or_false, Bool.false_or, Bool.not_true, Bool.not_false, Bool.and_self, Bool.or_self,
  List.getElem?_cons_zero, List.getElem?_cons_succ, List.set_cons_zero, List.set_cons_succ, List.getElem?_nil, if_true, reduceIte, Bool.false_eq_true, belows, below, Nat.le_refl, reduceCtorEq, e_lc, k_lc, k_lc2, e_yes, l_nil, l_cons, k_l1, k_l2t, k_l2f, k_l3, e_r1, k_r1N, e_en, k_enL, k_enT, e_mkE, k_mkE, e_erF, k_erF, e_isE, wipeM])
def oddL : List MV := [.str "", .str "x", .str "a b", .non, .bl true, .bl false, .int 0, .int 7, .int (-3), .lst [.str "a"], .tup [.str "b", .int 1], .tup [], .lst [], .lst [.lst [.int 1], .tup [.str "c"]], .int 100000000000000000000000000000]
def thingB (v : MV) : Bool := match datV v with
  | some d => fine d && decide (d.depth ≤ 5) && decide (G.wt d ≤ 1000) && below 0 v
  | none => false
theorem thing_of {v : MV} (e : thingB v = true) : Thing v := by
  unfold thingB at e
  split at e
  · rename_i d hd
    simp only [Bool.and_eq_true, decide_eq_true_eq] at e
    exact ⟨d, hd, e.1.1.1, e.1.1.2, e.1.2, e.2⟩
  · cases e
theorem odd_things : ∀ v ∈ oddL, Thing v := by
  intro v hv
  refine thing_of ?_
  have : oddL.all thingB = true := by decide +kernel
  exact List.all_eq_true.mp this v hv
theorem int_thing {r : Int} (h0 : 0 ≤ r) (h1 : r < 100000000000000000000000000000) : Thing (.int r) := by
  refine ⟨.int r, rfl, ?_, ?_, ?_, rfl⟩
  · simp only [fine]
    refine decide_eq_true (Nat.lt_trans (m := 100000000000000000000000000000) (by omega) (by decide +kernel))
  · simp only [PyData.depth]
    omega
  · simp only [G.wt]
    omega
theorem some_ok (h : MH) (o : MO) (hb : IsBag 0 o) (s0 s2 s4 s5 s6 s7 s8 s9 s10 s11 s12 s13 s14 s15 s16 : Sl) :
    ∃ u0 u1 u2 u3 u4 u5 o', mLc false (mR1 (mCons (mK (.int 6)) mNil)) (gN 14) mYes (mCall F__law_of (mCons (mVar 3) (mCons (mOp (gAdd false) (mVar 1) (mLst false (mCons (mCall F__law_draw (mCons (mVar 3) (mCons (mOp gPow (mK (.int 10)) (mK (.int 29))) mNil))) mNil))) mNil))) [14] [s0, .val (.lst oddL), s2, .val (.ref h.length), s4, s5, s6, s7, s8, s9, s10, s11, s12, s13, s14, s15, s16] (h ++ [o]) = .ok (.lst [u0, u1, u2, u3, u4, u5]) (h ++ [o']) ∧ Thing u0 ∧ Thing u1 ∧ Thing u2 ∧ Thing u3 ∧ Thing u4 ∧ Thing u5 := by
  obtain ⟨us, h1, e1, e2, e3, o', rfl, _⟩ := lc_inv (zs := rangeM 0 6) (P := fun i g => ∃ o, g = h ++ [o] ∧ IsBag (2 * (i : Int)) o) (U := Thing) (g := gN 14) (tt := mYes) (te := mCall F__law_of (mCons (mVar 3) (mCons (mOp (gAdd false) (mVar 1) (mLst false (mCons (mCall F__law_draw (mCons (mVar 3) (mCons (mOp gPow (mK (.int 10)) (mK (.int 29))) mNil))) mNil))) mNil)))
    (s := [s0, .val (.lst oddL), s2, .val (.ref h.length), s4, s5, s6, s7, s8, s9, s10, s11, s12, s13, .non, s15, s16]) (xs := rangeM 0 6) (acc := []) (i := 0) (h := h ++ [o]) ⟨o, rfl, hb⟩ (by decide) (by
      rintro j v hv g ⟨o1, rfl, hb1⟩
      have hj : j < 6 := by
        have := (List.getElem?_eq_some_iff.mp hv).1
        exact this
      obtain ⟨r, o2, d1, r0, r1, hb2⟩ := draw_ok (k := 2 * ((0 + j : Nat) : Int)) (by omega) (h := h ++ [o1]) (n := h.length) (o := o1) (by simp) hb1 (z := 100000000000000000000000000000) (by decide) (by decide +kernel)
      rw [h_set] at d1
      obtain ⟨u, o3, d2, um, hb3⟩ := of_ok (k := 2 * ((0 + j : Nat) : Int) + 1) (by omega) (h := h ++ [o2]) (n := h.length) (o := o2) (by simp) hb2 (xs := oddL ++ [.int r]) (by simp) (by simp [oddL])
      rw [h_set] at d2
      refine ⟨[s0, .val (.lst oddL), s2, .val (.ref h.length), s4, s5, s6, s7, s8, s9, s10, s11, s12, s13, .val v, s15, s16], u, h ++ [o3], ?_, ?_, ?_, ?_, o3, rfl, ?_⟩
      · simp only [e_fun, finR_rt, finR_nx, finR_exc, fin_raw, finX_raw, List.map_cons, List.map_nil, List.replicate_succ, List.replicate_zero, List.cons_append, List.nil_append, List.append_nil, List.length_cons, List.length_nil, Nat.zero_add, Nat.reduceAdd, Nat.reduceLeDiff, Nat.reduceLT, Nat.zero_lt_succ, Nat.add_one_pos,  String.reduceBEq, v_isiS, v_isiI, v_isiB, v_isiT, v_isiL, isiR_some, tyM, subT,
  e_var, getS_val, e_k, e_nil, e_cons, k_cons1, k_cons1x, k_cons2, k_cons2x, e_tup, k_tup, k_tupx, e_lst, k_lst, k_lstx, e_op, k_op1, k_op1x, k_op2, k_op2x, e_test, asB_ok, asB_x, noX_ok, e_chain, k_ch1, k_ch2, k_ch3t, k_ch3f, e_and, k_andt, k_andf, e_or, k_ort, k_orf, e_not, k_not, e_if, k_ift, k_iff,
  e_tand, k_tandt, k_tandf, e_tor, k_tort, k_torf, e_tnot, k_tnot, e_tru, k_tru, k_trux, onRef_lst, blR_t, truR_some, tru_bl, tru_int, tru_lst, tru_tup, e_cb, k_cb, k_cbx, e_on1, e_on2, e_call, k_call, k_callx, e_neg, k_neg, e_lm, k_lm, k_lm2, k_lm2x, e_sm, k_sm, e_pn, e_ps, k_ps, e_sl, k_sl1, k_sl2, k_sl3, e_rev, k_rev,
  e_errF, e_errIs, k_errF, k_errIs, opR_some, e_seq, seqS_nx, seqS_rt, seqS_bk, seqS_ct, seqS_exc, e_nx, e_bk, e_ct, e_drop, k_drop, k_dropx, e_ret, k_ret, k_retx, e_retN, e_ifS, k_ifSt, k_ifSf, k_ifSx, e_set, k_set, k_setx, e_asg, k_asg, k_asgx, k_asg2, e_par, k_par, e_gn, e_gs0, e_gs1, k_gs, e_gtp, e_sb, k_sb1, k_sb2,
  e_raise, k_raise, e_it, k_it, e_for, k_for, run_nil, run_cons, k_turn, k_turnN, k_turnC, k_turnB, k_turnR, k_turnX, src_str, src_tup, src_lst, src_scr, e_try, k_try, k_tryx, k_catch0, k_catchT, k_catchF, k_goneR,
  v_newT, v_newL, v_newR, v_addI, v_addL, v_addT, v_addRL, v_dif, v_eqS, v_eqI, v_neS, v_neI, v_inT, v_inL, v_niT, v_niL, v_isn, v_is, nonM, v_lenL, v_lenT, v_lenC, v_lenR, v_abs, v_intI, v_intB, v_max, v_min, v_listL, v_listT, v_listR, v_tupL, v_tupT, v_tupR, v_ltI, v_leI, v_gtI, v_geI, v_cutC, v_cutL, v_cutT, v_cutR, v_revL, v_app, v_inR, v_ixL, v_ixT, v_ixC, v_ixR,
  at_lit, at_last, ix_lit, v_mulN, v_mulM, v_mulL0, v_mulL1, Nat.zero_le, v_divN, v_powN, v_mod, sbO_some, v_sb, v_pop0, pop0_cons, Int.reduceLT, Int.reduceLE, Int.reducePow, Int.reduceNeg, Int.reduceAdd, Int.reduceSub, Int.reduceMul, h_last, h_set, fin_app, fin_self, setR_some, set_tup, set_lst, set_ref, setO_lst, Nat.lt_irrefl,
  flatM, inF_nil, inF_cons, eqF, List.all_cons, List.all_nil, List.any_cons, List.any_nil, str_beq, str_lit, String.reduceEq, decide_true, decide_false, decide_eq_true_eq, Bool.and_true, Bool.true_and, Bool.and_false, Bool.false_and, Bool.or_true, Bool.true_or, Bool.or_false, Bool.false_or, Bool.not_true, Bool.not_false, Bool.and_self, Bool.or_self,
  List.getElem?_cons_zero, List.getElem?_cons_succ, List.set_cons_zero, List.set_cons_succ, List.getElem?_nil, if_true, reduceIte, Bool.false_eq_true, belows, below, Nat.le_refl, reduceCtorEq, e_lc, k_lc, k_lc2, e_yes, l_nil, l_cons, k_l1, k_l2t, k_l2f, k_l3, e_r1, k_r1N, e_en, k_enL, k_enT, e_mkE, k_mkE, e_erF, k_erF, e_isE, wipeM]
      · simp only [e_fun, finR_rt, finR_nx, finR_exc, fin_raw, finX_raw, List.map_cons, List.map_nil, List.replicate_succ, List.replicate_zero, List.cons_append, List.nil_append, List.append_nil, List.length_cons, List.length_nil, Nat.zero_add, Nat.reduceAdd, Nat.reduceLeDiff, Nat.reduceLT, Nat.zero_lt_succ, Nat.add_one_pos,  String.reduceBEq, v_isiS, v_isiI, v_isiB, v_isiT, v_isiL, isiR_some, tyM, subT,
  e_var, getS_val, e_k, e_nil, e_cons, k_cons1, k_cons1x, k_cons2, k_cons2x, e_tup, k_tup, k_tupx, e_lst, k_lst, k_lstx, e_op, k_op1, k_op1x, k_op2, k_op2x, e_test, asB_ok, asB_x, noX_ok, e_chain, k_ch1, k_ch2, k_ch3t, k_ch3f, e_and, k_andt, k_andf, e_or, k_ort, k_orf, e_not, k_not, e_if, k_ift, k_iff,
  e_tand, k_tandt, k_tandf, e_tor, k_tort, k_torf, e_tnot, k_tnot, e_tru, k_tru, k_trux, onRef_lst, blR_t, truR_some, tru_bl, tru_int, tru_lst, tru_tup, e_cb, k_cb, k_cbx, e_on1, e_on2, e_call, k_call, k_callx, e_neg, k_neg, e_lm, k_lm, k_lm2, k_lm2x, e_sm, k_sm, e_pn, e_ps, k_ps, e_sl, k_sl1, k_sl2, k_sl3, e_rev, k_rev,
  e_errF, e_errIs, k_errF, k_errIs, opR_some, e_seq, seqS_nx, seqS_rt, seqS_bk, seqS_ct, seqS_exc, e_nx, e_bk, e_ct, e_drop, k_drop, k_dropx, e_ret, k_ret, k_retx, e_retN, e_ifS, k_ifSt, k_ifSf, k_ifSx, e_set, k_set, k_setx, e_asg, k_asg, k_asgx, k_asg2, e_par, k_par, e_gn, e_gs0, e_gs1, k_gs, e_gtp, e_sb, k_sb1, k_sb2,
  e_raise, k_raise, e_it, k_it, e_for, k_for, run_nil, run_cons, k_turn, k_turnN, k_turnC, k_turnB, k_turnR, k_turnX, src_str, src_tup, src_lst, src_scr, e_try, k_try, k_tryx, k_catch0, k_catchT, k_catchF, k_goneR,
  v_newT, v_newL, v_newR, v_addI, v_addL, v_addT, v_addRL, v_dif, v_eqS, v_eqI, v_neS, v_neI, v_inT, v_inL, v_niT, v_niL, v_isn, v_is, nonM, v_lenL, v_lenT, v_lenC, v_lenR, v_abs, v_intI, v_intB, v_max, v_min, v_listL, v_listT, v_listR, v_tupL, v_tupT, v_tupR, v_ltI, v_leI, v_gtI, v_geI, v_cutC, v_cutL, v_cutT, v_cutR, v_revL, v_app, v_inR, v_ixL, v_ixT, v_ixC, v_ixR,
  at_lit, at_last, ix_lit, v_mulN, v_mulM, v_mulL0, v_mulL1, Nat.zero_le, v_divN, v_powN, v_mod, sbO_some, v_sb, v_pop0, pop0_cons, Int.reduceLT, Int.reduceLE, Int.reducePow, Int.reduceNeg, Int.reduceAdd, Int.reduceSub, Int.reduceMul, h_last, h_set, fin_app, fin_self, setR_some, set_tup, set_lst, set_ref, setO_lst, Nat.lt_irrefl,
  flatM, inF_nil, inF_cons, eqF, List.all_cons, List.all_nil, List.any_cons, List.any_nil, str_beq, str_lit, String.reduceEq, decide_true, decide_false, decide_eq_true_eq, Bool.and_true, Bool.true_and, Bool.and_false, Bool.false_and, Bool.or_true, Bool.true_or, Bool.or_false, Bool.false_or, Bool.not_true, Bool.not_false, Bool.and_self, Bool.or_self,
  List.getElem?_cons_zero, List.getElem?_cons_succ, List.set_cons_zero, List.set_cons_succ, List.getElem?_nil, if_true, reduceIte, Bool.false_eq_true, belows, below, Nat.le_refl, reduceCtorEq, e_lc, k_lc, k_lc2, e_yes, l_nil, l_cons, k_l1, k_l2t, k_l2f, k_l3, e_r1, k_r1N, e_en, k_enL, k_enT, e_mkE, k_mkE, e_erF, k_erF, e_isE, wipeM]
      · have la : (oddL ++ [MV.int r]).length ≤ 1000000 := by simp [oddL]
        simp only [d1, d2, la, e_fun, finR_rt, finR_nx, finR_exc, fin_raw, finX_raw, List.map_cons, List.map_nil, List.replicate_succ, List.replicate_zero, List.cons_append, List.nil_append, List.append_nil, List.length_cons, List.length_nil, Nat.zero_add, Nat.reduceAdd, Nat.reduceLeDiff, Nat.reduceLT, Nat.zero_lt_succ, Nat.add_one_pos,  String.reduceBEq, v_isiS, v_isiI, v_isiB, v_isiT, v_isiL, isiR_some, tyM, subT,
  e_var, getS_val, e_k, e_nil, e_cons, k_cons1, k_cons1x, k_cons2, k_cons2x, e_tup, k_tup, k_tupx, e_lst, k_lst, k_lstx, e_op, k_op1, k_op1x, k_op2, k_op2x, e_test, asB_ok, asB_x, noX_ok, e_chain, k_ch1, k_ch2, k_ch3t, k_ch3f, e_and, k_andt, k_andf, e_or, k_ort, k_orf, e_not, k_not, e_if, k_ift, k_iff,
  e_tand, k_tandt, k_tandf, e_tor, k_tort, k_torf, e_tnot, k_tnot, e_tru, k_tru, k_trux, onRef_lst, blR_t, truR_some, tru_bl, tru_int, tru_lst, tru_tup, e_cb, k_cb, k_cbx, e_on1, e_on2, e_call, k_call, k_callx, e_neg, k_neg, e_lm, k_lm, k_lm2, k_lm2x, e_sm, k_sm, e_pn, e_ps, k_ps, e_sl, k_sl1, k_sl2, k_sl3, e_rev, k_rev,
  e_errF, e_errIs, k_errF, k_errIs, opR_some, e_seq, seqS_nx, seqS_rt, seqS_bk, seqS_ct, seqS_exc, e_nx, e_bk, e_ct, e_drop, k_drop, k_dropx, e_ret, k_ret, k_retx, e_retN, e_ifS, k_ifSt, k_ifSf, k_ifSx, e_set, k_set, k_setx, e_asg, k_asg, k_asgx, k_asg2, e_par, k_par, e_gn, e_gs0, e_gs1, k_gs, e_gtp, e_sb, k_sb1, k_sb2,
  e_raise, k_raise, e_it, k_it, e_for, k_for, run_nil, run_cons, k_turn, k_turnN, k_turnC, k_turnB, k_turnR, k_turnX, src_str, src_tup, src_lst, src_scr, e_try, k_try, k_tryx, k_catch0, k_catchT, k_catchF, k_goneR,
  v_newT, v_newL, v_newR, v_addI, v_addL, v_addT, v_addRL, v_dif, v_eqS, v_eqI, v_neS, v_neI, v_inT, v_inL, v_niT, v_niL, v_isn, v_is, nonM, v_lenL, v_lenT, v_lenC, v_lenR, v_abs, v_intI, v_intB, v_max, v_min, v_listL, v_listT, v_listR, v_tupL, v_tupT, v_tupR, v_ltI, v_leI, v_gtI, v_geI, v_cutC, v_cutL, v_cutT, v_cutR, v_revL, v_app, v_inR, v_ixL, v_ixT, v_ixC, v_ixR,
  at_lit, at_last, ix_lit, v_mulN, v_mulM, v_mulL0, v_mulL1, Nat.zero_le, v_divN, v_powN, v_mod, sbO_some, v_sb, v_pop0, pop0_cons, Int.reduceLT, Int.reduceLE, Int.reducePow, Int.reduceNeg, Int.reduceAdd, Int.reduceSub, Int.reduceMul, h_last, h_set, fin_app, fin_self, setR_some, set_tup, set_lst, set_ref, setO_lst, Nat.lt_irrefl,
  flatM, inF_nil, inF_cons, eqF, List.all_cons, List.all_nil, List.any_cons, List.any_nil, str_beq, str_lit, String.reduceEq, decide_true, decide_false, decide_eq_true_eq, Bool.and_true, Bool.true_and, Bool.and_false, Bool.false_and, Bool.or_true, Bool.true_or, Bool.or_false, Bool.false_or, Bool.not_true, Bool.not_false, Bool.and_self, Bool.or_self,
  List.getElem?_cons_zero, List.getElem?_cons_succ, List.set_cons_zero, List.set_cons_succ, List.getElem?_nil, if_true, reduceIte, Bool.false_eq_true, belows, below, Nat.le_refl, reduceCtorEq, e_lc, k_lc, k_lc2, e_yes, l_nil, l_cons, k_l1, k_l2t, k_l2f, k_l3, e_r1, k_r1N, e_en, k_enL, k_enT, e_mkE, k_mkE, e_erF, k_erF, e_isE, wipeM]
      · rcases List.mem_append.mp um with z | z
        · exact odd_things u z
        · rw [List.mem_singleton] at z
          subst z
          exact int_thing r0 r1
      · have : (2 * ((0 + j + 1 : Nat) : Int)) = 2 * ((0 + j : Nat) : Int) + 1 + 1 := by omega
        rw [this]
        exact hb3)
  rw [List.nil_append] at e1
  have hl : us.length = 6 := e2
  match us, hl, e3, e1 with
  | [u0, u1, u2, u3, u4, u5], _, e3, e1 =>
    refine ⟨u0, u1, u2, u3, u4, u5, o', ?_, e3 _ (by simp), e3 _ (by simp), e3 _ (by simp), e3 _ (by simp), e3 _ (by simp), e3 _ (by simp)⟩
    simp only [↓e1, e_fun, finR_rt, finR_nx, finR_exc, fin_raw, finX_raw, List.map_cons, List.map_nil, List.replicate_succ, List.replicate_zero, List.cons_append, List.nil_append, List.append_nil, List.length_cons, List.length_nil, Nat.zero_add, Nat.reduceAdd, Nat.reduceLeDiff, Nat.reduceLT, Nat.zero_lt_succ, Nat.add_one_pos,  String.reduceBEq, v_isiS, v_isiI, v_isiB, v_isiT, v_isiL, isiR_some, tyM, subT,
  e_var, getS_val, e_k, e_nil, e_cons, k_cons1, k_cons1x, k_cons2, k_cons2x, e_tup, k_tup, k_tupx, e_lst, k_lst, k_lstx, e_op, k_op1, k_op1x, k_op2, k_op2x, e_test, asB_ok, asB_x, noX_ok, e_chain, k_ch1, k_ch2, k_ch3t, k_ch3f, e_and, k_andt, k_andf, e_or, k_ort, k_orf, e_not, k_not, e_if, k_ift, k_iff,
  e_tand, k_tandt, k_tandf, e_tor, k_tort, k_torf, e_tnot, k_tnot, e_tru, k_tru, k_trux, onRef_lst, blR_t, truR_some, tru_bl, tru_int, tru_lst, tru_tup, e_cb, k_cb, k_cbx, e_on1, e_on2, e_call, k_call, k_callx, e_neg, k_neg, e_lm, k_lm, k_lm2, k_lm2x, e_sm, k_sm, e_pn, e_ps, k_ps, e_sl, k_sl1, k_sl2, k_sl3, e_rev, k_rev,
  e_errF, e_errIs, k_errF, k_errIs, opR_some, e_seq, seqS_nx, seqS_rt, seqS_bk, seqS_ct, seqS_exc, e_nx, e_bk, e_ct, e_drop, k_drop, k_dropx, e_ret, k_ret, k_retx, e_retN, e_ifS, k_ifSt, k_ifSf, k_ifSx, e_set, k_set, k_setx, e_asg, k_asg, k_asgx, k_asg2, e_par, k_par, e_gn, e_gs0, e_gs1, k_gs, e_gtp, e_sb, k_sb1, k_sb2,
  e_raise, k_raise, e_it, k_it, e_for, k_for, run_nil, run_cons, k_turn, k_turnN, k_turnC, k_turnB, k_turnR, k_turnX, src_str, src_tup, src_lst, src_scr, e_try, k_try, k_tryx, k_catch0, k_catchT, k_catchF, k_goneR,
  v_newT, v_newL, v_newR, v_addI, v_addL, v_addT, v_addRL, v_dif, v_eqS, v_eqI, v_neS, v_neI, v_inT, v_inL, v_niT, v_niL, v_isn, v_is, nonM, v_lenL, v_lenT, v_lenC, v_lenR, v_abs, v_intI, v_intB, v_max, v_min, v_listL, v_listT, v_listR, v_tupL, v_tupT, v_tupR, v_ltI, v_leI, v_gtI, v_geI, v_cutC, v_cutL, v_cutT, v_cutR, v_revL, v_app, v_inR, v_ixL, v_ixT, v_ixC, v_ixR,
  at_lit, at_last, ix_lit, v_mulN, v_mulM, v_mulL0, v_mulL1, Nat.zero_le, v_divN, v_powN, v_mod, sbO_some, v_sb, v_pop0, pop0_cons, Int.reduceLT, Int.reduceLE, Int.reducePow, Int.reduceNeg, Int.reduceAdd, Int.reduceSub, Int.reduceMul, h_last, h_set, fin_app, fin_self, setR_some, set_tup, set_lst, set_ref, setO_lst, Nat.lt_irrefl,
  flatM, inF_nil, inF_cons, eqF, List.all_cons, List.all_nil, List.any_cons, List.any_nil, str_beq, str_lit, String.reduceEq, decide_true, decide_false, decide_eq_true_eq, Bool.and_true, Bool.true_and, Bool.and_false, Bool.false_and, Bool.or_true, Bool.true_or, Bool.or_false, Bool.false_or, Bool.not_true, Bool.not_false, Bool.and_self, Bool.or_self,
  List.getElem?_cons_zero, List.getElem?_cons_succ, List.set_cons_zero, List.set_cons_succ, List.getElem?_nil, if_true, reduceIte, Bool.false_eq_true, belows, below, Nat.le_refl, reduceCtorEq, e_lc, k_lc, k_lc2, e_yes, l_nil, l_cons, k_l1, k_l2t, k_l2f, k_l3, e_r1, k_r1N, e_en, k_enL, k_enT, e_mkE, k_mkE, e_erF, k_erF, e_isE, wipeM]
end L
set_option Elab.async false
set_option linter.all false
set_option maxRecDepth 100000
set_option maxHeartbeats 4000000
namespace L
open PySem PySem.Spec L2 G M
local macro_rules | `(tactic| walk_at "ev") => `(tactic| simp only [e_fun, finR_rt, finR_nx, finR_exc, fin_raw, finX_raw, List.map_cons, List.map_nil, List.replicate_succ, List.replicate_zero, List.cons_append, List.nil_append, List.append_nil, List.length_cons, List.length_nil, Nat.zero_add, Nat.reduceAdd, Nat.reduceLeDiff, Nat.reduceLT, Nat.zero_lt_succ, Nat.add_one_pos,  String.reduceBEq, v_isiS, v_isiI, v_isiB, v_isiT, v_isiL, isiR_some, tyM, subT,
  e_var, getS_val, e_k, e_nil, e_cons, k_cons1, k_cons1x, k_cons2, k_cons2x, e_tup, k_tup, k_tupx, e_lst, k_lst, k_lstx, e_op, k_op1, k_op1x, k_op2, k_op2x, e_test, asB_ok, asB_x, noX_ok, e_chain, k_ch1, k_ch2, k_ch3t, k_ch3f, e_and, k_andt, k_andf, e_or, k_ort, k_orf, e_not, k_not, e_if, k_ift, k_iff,
  e_tand, k_tandt, k_tandf, e_tor, k_tort, k_torf, e_tnot, k_tnot, e_tru, k_tru, k_trux, onRef_lst, blR_t, truR_some, tru_bl, tru_int, tru_lst, tru_tup, e_cb, k_cb, k_cbx, e_on1, e_on2, e_call, k_call, k_callx, e_neg, k_neg, e_lm, k_lm, k_lm2, k_lm2x, e_sm, k_sm, e_pn, e_ps, k_ps, e_sl, k_sl1, k_sl2, k_sl3, e_rev, k_rev,
  e_errF, e_errIs, k_errF, k_errIs, opR_some, e_seq, seqS_nx, seqS_rt, seqS_bk, seqS_ct, seqS_exc, e_nx, e_bk, e_ct, e_drop, k_drop, k_dropx, e_ret, k_ret, k_retx, e_retN, e_ifS, k_ifSt, k_ifSf, k_ifSx, e_set, k_set, k_setx, e_asg, k_asg, k_asgx, k_asg2, e_par, k_par, e_gn, e_gs0, e_gs1, k_gs, e_gtp, e_sb, k_sb1, k_sb2,
  e_raise, k_raise, e_it, k_it, e_for, k_for, run_nil, run_cons, k_turn, k_turnN, k_turnC, k_turnB, k_turnR, k_turnX, src_str, src_tup, src_lst, src_scr, e_try, k_try, k_tryx, k_catch0, k_catchT, k_catchF, k_goneR,
  v_newT, v_newL, v_newR, v_addI, v_addL, v_addT, v_addRL, v_dif, v_eqS, v_eqI, v_neS, v_neI, v_inT, v_inL, v_niT, v_niL, v_isn, v_is, nonM, v_lenL, v_lenT, v_lenC, v_lenR, v_abs, v_intI, v_intB, v_max, v_min, v_listL, v_listT, v_listR, v_tupL, v_tupT, v_tupR, v_ltI, v_leI, v_gtI, v_geI, v_cutC, v_cutL, v_cutT, v_cutR, v_revL, v_app, v_inR, v_ixL, v_ixT, v_ixC, v_ixR,
  at_lit, at_last, ix_lit, v_mulN, v_mulM, v_mulL0, v_mulL1, Nat.zero_le, v_divN, v_powN, v_mod, sbO_some, v_sb, v_pop0, pop0_cons, Int.reduceLT, Int.reduceLE, Int.reducePow, Int.reduceNeg, Int.reduceAdd, Int.reduceSub, Int.reduceMul, h_last, h_set, fin_app, fin_self, setR_some, set_tup, set_lst, set_ref, setO_lst, Nat.lt_irrefl,
  flatM, inF_nil, inF_cons, eqF, List.all_cons, List.all_nil, List.any_cons, List.any_nil, str_beq, str_lit, String.reduceEq, decide_true, decide_false, decide_eq_true_eq, Bool.and_true, Bool.true_and, Bool.and_false, Bool.false_and, Bool.or_true, Bool.true_or, Bool.or_false, Bool.false_or, Bool.not_true, Bool.not_false, Bool.and_self, Bool.or_self,
  List.getElem?_cons_zero, List.getElem?_cons_succ, List.set_cons_zero, List.set_cons_succ, List.getElem?_nil, if_true, reduceIte, Bool.false_eq_true, belows, below, Nat.le_refl, reduceCtorEq, e_lc, k_lc, k_lc2, e_yes, l_nil, l_cons, k_l1, k_l2t, k_l2f, k_l3, e_r1, k_r1N, e_en, k_enL, k_enT, e_mkE, k_mkE, e_erF, k_erF, e_isE, wipeM])
local macro_rules | `(tactic| walk_at "evs") => `(tactic| simp only [*, e_fun, finR_rt, finR_nx, finR_exc, fin_raw, finX_raw, List.map_cons, List.map_nil, List.replicate_succ, List.replicate_zero, List.cons_append, List.nil_append, List.append_nil, List.length_cons, List.length_nil, Nat.zero_add, Nat.reduceAdd, Nat.reduceLeDiff, Nat.reduceLT, Nat.zero_lt_succ, Nat.add_one_pos,  String.reduceBEq, v_isiS, v_isiI, v_isiB, v_isiT, v_isiL, isiR_some, tyM, subT,
  e_var, getS_val, e_k, e_nil, e_cons, k_cons1, k_cons1x, k_cons2, k_cons2x, e_tup, k_tup, k_tupx, e_lst, k_lst, k_lstx, e_op, k_op1, k_op1x, k_op2, k_op2x, e_test, asB_ok, asB_x, noX_ok, e_chain, k_ch1, k_ch2, k_ch3t, k_ch3f, e_and, k_andt, k_andf, e_or, k_ort, k_orf, e_not, k_not, e_if, k_ift, k_iff,
  e_tand, k_tandt, k_tandf, e_tor, k_tort, k_torf, e_tnot, k_tnot, e_tru, k_tru, k_trux, onRef_lst, blR_t, truR_some, tru_bl, tru_int, tru_lst, tru_tup, e_cb, k_cb, k_cbx, e_on1, e_on2, e_call, k_call, k_callx, e_neg, k_neg, e_lm, k_lm, k_lm2, k_lm2x, e_sm, k_sm, e_pn, e_ps, k_ps, e_sl, k_sl1, k_sl2, k_sl3, e_rev, k_rev,
  e_errF, e_errIs, k_errF, k_errIs, opR_some, e_seq, seqS_nx, seqS_rt, seqS_bk, seqS_ct, seqS_exc, e_nx, e_bk, e_ct, e_drop, k_drop, k_dropx, e_ret, k_ret, k_retx, e_retN, e_ifS, k_ifSt, k_ifSf, k_ifSx, e_set, k_set, k_setx, e_asg, k_asg, k_asgx, k_asg2, e_par, k_par, e_gn, e_gs0, e_gs1, k_gs, e_gtp, e_sb, k_sb1, k_sb2,
  e_raise, k_raise, e_it, k_it, e_for, k_for, run_nil, run_cons, k_turn, k_turnN, k_turnC, k_turnB, k_turnR, k_turnX, src_str, src_tup, src_lst, src_scr, e_try, k_try, k_tryx, k_catch0, k_catchT, k_catchF, k_goneR,
  v_newT, v_newL, v_newR, v_addI, v_addL, v_addT, v_addRL, v_dif, v_eqS, v_eqI, v_neS, v_neI, v_inT, v_inL, v_niT, v_niL, v_isn, v_is, nonM, v_lenL, v_lenT, v_lenC, v_lenR, v_abs, v_intI, v_intB, v_max, v_min, v_listL, v_listT, v_listR, v_tupL, v_tupT, v_tupR, v_ltI, v_leI, v_gtI, v_geI, v_cutC, v_cutL, v_cutT, v_cutR, v_revL, v_app, v_inR, v_ixL, v_ixT, v_ixC, v_ixR,
  at_lit, at_last, ix_lit, v_mulN, v_mulM, v_mulL0, v_mulL1, Nat.zero_le, v_divN, v_powN, v_mod, sbO_some, v_sb, v_pop0, pop0_cons, Int.reduceLT, Int.reduceLE, Int.reducePow, Int.reduceNeg, Int.reduceAdd, Int.reduceSub, Int.reduceMul, h_last, h_set, fin_app, fin_self, setR_some, set_tup, set_lst, set_ref, setO_lst, Nat.lt_irrefl,
  flatM, inF_nil, inF_cons, eqF, List.all_cons, List.all_nil, List.any_cons, List.any_nil, str_beq, str_lit, String.reduceEq, decide_true, decide_false, decide_eq_true_eq, Bool.and_true, Bool.true_and, Bool.and_false, Bool.false_and, Bool.or_true, Bool.true_or, Bool.or_false, Bool.false_or, Bool.not_true, Bool.not_false, Bool.and_self, Bool.or_self,
  List.getElem?_cons_zero, List.getElem?_cons_succ, List.set_cons_zero, List.set_cons_succ, List.getElem?_nil, if_true, reduceIte, Bool.false_eq_true, belows, below, Nat.le_refl, reduceCtorEq, e_lc, k_lc, k_lc2, e_yes, l_nil, l_cons, k_l1, k_l2t, k_l2f, k_l3, e_r1, k_r1N, e_en, k_enL, k_enT, e_mkE, k_mkE, e_erF, k_erF, e_isE, wipeM])
theorem h_last2 (h : MH) (o1 o2 : MO) : (h ++ [o1, o2])[h.length + 1]? = some o2 := by simp
theorem h_set2 (h : MH) (o1 o2 o3 : MO) : (h ++ [o1, o2]).set (h.length + 1) o3 = h ++ [o1, o3] := by simp
theorem ones27 : (List.replicate 27 [MV.int 1]).flatten = [.int 1, .int 1, .int 1, .int 1, .int 1, .int 1, .int 1, .int 1, .int 1, .int 1, .int 1, .int 1, .int 1, .int 1, .int 1, .int 1, .int 1, .int 1, .int 1, .int 1, .int 1, .int 1, .int 1, .int 1, .int 1, .int 1, .int 1] := rfl
def onesL : List MV := [.int 1, .int 1, .int 1, .int 1, .int 1, .int 1, .int 1, .int 1, .int 1, .int 1, .int 1, .int 1, .int 1, .int 1, .int 1, .int 1, .int 1, .int 1, .int 1, .int 1, .int 1, .int 1, .int 1, .int 1, .int 1, .int 1, .int 1]
theorem mul27 (h : MH) : gMul true (.lst [.int 1]) (.int 27) h = .ok (.ref h.length) (h ++ [.lst onesL]) := rfl
theorem many_ok (h : MH) (o : MO) (s0 s1 s2 s3 s4 s5 s6 s8 s9 s10 s11 s12 s13 s14 s15 s16 : Sl) :
    mAsg (mTup (mCons (mK (.int 2)) (mCons (mK (.int 2)) (mCons (mK (.int 3)) (mCons (mK (.int 2)) mNil))))) (gTp 4 (gs1 (gSb (mVar 7) (mK (.int 1))) (gs1 (gSb (mVar 7) (mK (.int 21))) (gs1 (gSb (mVar 7) (mK (.int 25))) (gs1 (gSb (mVar 7) (mK (.int 26))) gs0)))))
      [s0, s1, s2, s3, s4, s5, s6, .val (.ref (h.length + 1)), s8, s9, s10, s11, s12, s13, s14, s15, s16] (h ++ [o, .lst onesL]) =
    .ok .nx [s0, s1, s2, s3, s4, s5, s6, .val (.ref (h.length + 1)), s8, s9, s10, s11, s12, s13, s14, s15, s16] (h ++ [o, .lst manyL]) := by
  unfold onesL manyL
  simp only [h_last2, h_set2, e_fun, finR_rt, finR_nx, finR_exc, fin_raw, finX_raw, List.map_cons, List.map_nil, List.replicate_succ, List.replicate_zero, List.cons_append, List.nil_append, List.append_nil, List.length_cons, List.length_nil, Nat.zero_add, Nat.reduceAdd, Nat.reduceLeDiff, Nat.reduceLT, Nat.zero_lt_succ, Nat.add_one_pos,  String.reduceBEq, v_isiS, v_isiI, v_isiB, v_isiT, v_isiL, isiR_some, tyM, subT,
  e_var, getS_val, e_k, e_nil, e_cons, k_cons1, k_cons1x, k_cons2, k_cons2x, e_tup, k_tup, k_tupx, e_lst, k_lst, k_lstx, e_op, k_op1, k_op1x, k_op2, k_op2x, e_test, asB_ok, asB_x, noX_ok, e_chain, k_ch1, k_ch2, k_ch3t, k_ch3f, e_and, k_andt, k_andf, e_or, k_ort, k_orf, e_not, k_not, e_if, k_ift, k_iff,
  e_tand, k_tandt, k_tandf, e_tor, k_tort, k_torf, e_tnot, k_tnot, e_tru, k_tru, k_trux, onRef_lst, blR_t, truR_some, tru_bl, tru_int, tru_lst, tru_tup, e_cb, k_cb, k_cbx, e_on1, e_on2, e_call, k_call, k_callx, e_neg, k_neg, e_lm, k_lm, k_lm2, k_lm2x, e_sm, k_sm, e_pn, e_ps, k_ps, e_sl, k_sl1, k_sl2, k_sl3, e_rev, k_rev,
  e_errF, e_errIs, k_errF, k_errIs, opR_some, e_seq, seqS_nx, seqS_rt, seqS_bk, seqS_ct, seqS_exc, e_nx, e_bk, e_ct, e_drop, k_drop, k_dropx, e_ret, k_ret, k_retx, e_retN, e_ifS, k_ifSt, k_ifSf, k_ifSx, e_set, k_set, k_setx, e_asg, k_asg, k_asgx, k_asg2, e_par, k_par, e_gn, e_gs0, e_gs1, k_gs, e_gtp, e_sb, k_sb1, k_sb2,
  e_raise, k_raise, e_it, k_it, e_for, k_for, run_nil, run_cons, k_turn, k_turnN, k_turnC, k_turnB, k_turnR, k_turnX, src_str, src_tup, src_lst, src_scr, e_try, k_try, k_tryx, k_catch0, k_catchT, k_catchF, k_goneR,
  v_newT, v_newL, v_newR, v_addI, v_addL, v_addT, v_addRL, v_dif, v_eqS, v_eqI, v_neS, v_neI, v_inT, v_inL, v_niT, v_niL, v_isn, v_is, nonM, v_lenL, v_lenT, v_lenC, v_lenR, v_abs, v_intI, v_intB, v_max, v_min, v_listL, v_listT, v_listR, v_tupL, v_tupT, v_tupR, v_ltI, v_leI, v_gtI, v_geI, v_cutC, v_cutL, v_cutT, v_cutR, v_revL, v_app, v_inR, v_ixL, v_ixT, v_ixC, v_ixR,
  at_lit, at_last, ix_lit, v_mulN, v_mulM, v_mulL0, v_mulL1, Nat.zero_le, v_divN, v_powN, v_mod, sbO_some, v_sb, v_pop0, pop0_cons, Int.reduceLT, Int.reduceLE, Int.reducePow, Int.reduceNeg, Int.reduceAdd, Int.reduceSub, Int.reduceMul, h_last, h_set, fin_app, fin_self, setR_some, set_tup, set_lst, set_ref, setO_lst, Nat.lt_irrefl,
  flatM, inF_nil, inF_cons, eqF, List.all_cons, List.all_nil, List.any_cons, List.any_nil, str_beq, str_lit, String.reduceEq, decide_true, decide_false, decide_eq_true_eq, Bool.and_true, Bool.true_and, Bool.and_false, Bool.false_and, Bool.or_true, Bool.true_or, Bool.or_false, Bool.false_or, Bool.not_true, Bool.not_false, Bool.and_self, Bool.or_self,
  List.getElem?_cons_zero, List.getElem?_cons_succ, List.set_cons_zero, List.set_cons_succ, List.getElem?_nil, if_true, reduceIte, Bool.false_eq_true, belows, below, Nat.le_refl, reduceCtorEq, e_lc, k_lc, k_lc2, e_yes, l_nil, l_cons, k_l1, k_l2t, k_l2f, k_l3, e_r1, k_r1N, e_en, k_enL, k_enT, e_mkE, k_mkE, e_erF, k_erF, e_isE, wipeM]
theorem app2 (h : MH) (a b : MO) : h ++ [a] ++ [b] = h ++ [a, b] := by simp
theorem len2 (h : MH) (a : MO) : (h ++ [a]).length = h.length + 1 := by simp
theorem turn_ok (ns : List Int) (at_ : Int) (ha : 0 ≤ at_) (hb : at_ ≤ 1000) (t3 t4 t5 t6 t7 t8 t9 t10 t11 t12 t13 t14 t15 t16 : Sl) (h : MH) :
    ∃ u3 u4 u5 u6 u7 u8 u9 u10 u11 u12 u13 u14 u15 u16 h', B_law_3 [.val (scrM ns), .val (.lst oddL), .val (.int at_), t3, t4, t5, t6, t7, t8, t9, t10, t11, t12, t13, t14, t15, t16] h =
      .ok .nx [.val (scrM ns), .val (.lst oddL), .val (.int at_), u3, u4, u5, u6, u7, u8, u9, u10, u11, u12, u13, u14, u15, u16] h' := by
  obtain ⟨o, e0, b0⟩ := bag_ok ns h at_ ha hb
  obtain ⟨v0, v1, v2, v3, v4, v5, o', e1, q0, q1, q2, q3, q4, q5⟩ := some_ok h o b0 (.val (scrM ns)) (.val (.int at_)) t4 t5 t6 t7 t8 t9 t10 t11 t12 t13 t14 t15 t16
  have hn : (h ++ [o', .lst manyL])[h.length + 1]? = some (.lst manyL) := h_last2 ..
  obtain ⟨w1, e3⟩ := want_ok hn v0 v1 v2 v3 v4 v5 q0 q1 q2 (.val (scrM ns)) (.val (.lst oddL)) (.val (.int at_)) (.val (.ref h.length)) (.val (.lst (madeL v0 v1 v2))) (.val (.lst (madeL v3 v4 v5))) t10 t11 t12 t13 t14 t15 t16
  obtain ⟨w2, e4⟩ := want2 hn v0 v1 v2 v3 v4 v5 q3 q4 q5 (.val (scrM ns)) (.val (.lst oddL)) (.val (.int at_)) (.val (.ref h.length)) (.val (.lst (madeL v0 v1 v2))) (.val (.lst (madeL v3 v4 v5))) w1 t11 t12 t13 t14 t15 t16
  obtain ⟨x1, x2, x3, e5⟩ := last_ok v0 v1 v2 (.val (scrM ns)) (.val (.lst oddL)) (.val (.int at_)) (.val (.ref h.length)) (.val (.lst [v0, v1, v2, v3, v4, v5])) (.val (.lst (madeL v0 v1 v2))) (.val (.lst (madeL v3 v4 v5))) (.val (.ref (h.length + 1))) (.val (.int 3)) (.val (.lst (madeL v3 v4 v5))) w2 t11 t12 t13 t14 t15 t16 (h ++ [o', .lst manyL])
  rw [B_law_3_eq]
  simp only [e0, ↓e1, made_ok, mul27, app2, len2, ↓many_ok, e3, e4, e5, e_fun, finR_rt, finR_nx, finR_exc, fin_raw, finX_raw, List.map_cons, List.map_nil, List.replicate_succ, List.replicate_zero, List.cons_append, List.nil_append, List.append_nil, List.length_cons, List.length_nil, Nat.zero_add, Nat.reduceAdd, Nat.reduceLeDiff, Nat.reduceLT, Nat.zero_lt_succ, Nat.add_one_pos,  String.reduceBEq, v_isiS, v_isiI, v_isiB, v_isiT, v_isiL, isiR_some, tyM, subT,
  e_var, getS_val, e_k, e_nil, e_cons, k_cons1, k_cons1x, k_cons2, k_cons2x, e_tup, k_tup, k_tupx, e_lst, k_lst, k_lstx, e_op, k_op1, k_op1x, k_op2, k_op2x, e_test, asB_ok, asB_x, noX_ok, e_chain, k_ch1, k_ch2, k_ch3t, k_ch3f, e_and, k_andt, k_andf, e_or, k_ort, k_orf, e_not, k_not, e_if, k_ift, k_iff,
  e_tand, k_tandt, k_tandf, e_tor, k_tort, k_torf, e_tnot, k_tnot, e_tru, k_tru, k_trux, onRef_lst, blR_t, truR_some, tru_bl, tru_int, tru_lst, tru_tup, e_cb, k_cb, k_cbx, e_on1, e_on2, e_call, k_call, k_callx, e_neg, k_neg, e_lm, k_lm, k_lm2, k_lm2x, e_sm, k_sm, e_pn, e_ps, k_ps, e_sl, k_sl1, k_sl2, k_sl3, e_rev, k_rev,
  e_errF, e_errIs, k_errF, k_errIs, opR_some, e_seq, seqS_nx, seqS_rt, seqS_bk, seqS_ct, seqS_exc, e_nx, e_bk, e_ct, e_drop, k_drop, k_dropx, e_ret, k_ret, k_retx, e_retN, e_ifS, k_ifSt, k_ifSf, k_ifSx, e_set, k_set, k_setx, e_asg, k_asg, k_asgx, k_asg2, e_par, k_par, e_gn, e_gs0, e_gs1, k_gs, e_gtp, e_sb, k_sb1, k_sb2,
  e_raise, k_raise, e_it, k_it, e_for, k_for, run_nil, run_cons, k_turn, k_turnN, k_turnC, k_turnB, k_turnR, k_turnX, src_str, src_tup, src_lst, src_scr, e_try, k_try, k_tryx, k_catch0, k_catchT, k_catchF, k_goneR,
  v_newT, v_newL, v_newR, v_addI, v_addL, v_addT, v_addRL, v_dif, v_eqS, v_eqI, v_neS, v_neI, v_inT, v_inL, v_niT, v_niL, v_isn, v_is, nonM, v_lenL, v_lenT, v_lenC, v_lenR, v_abs, v_intI, v_intB, v_max, v_min, v_listL, v_listT, v_listR, v_tupL, v_tupT, v_tupR, v_ltI, v_leI, v_gtI, v_geI, v_cutC, v_cutL, v_cutT, v_cutR, v_revL, v_app, v_inR, v_ixL, v_ixT, v_ixC, v_ixR,
  at_lit, at_last, ix_lit, v_mulN, v_mulM, v_mulL0, v_mulL1, Nat.zero_le, v_divN, v_powN, v_mod, sbO_some, v_sb, v_pop0, pop0_cons, Int.reduceLT, Int.reduceLE, Int.reducePow, Int.reduceNeg, Int.reduceAdd, Int.reduceSub, Int.reduceMul, h_last, h_set, fin_app, fin_self, setR_some, set_tup, set_lst, set_ref, setO_lst, Nat.lt_irrefl,
  flatM, inF_nil, inF_cons, eqF, List.all_cons, List.all_nil, List.any_cons, List.any_nil, str_beq, str_lit, String.reduceEq, decide_true, decide_false, decide_eq_true_eq, Bool.and_true, Bool.true_and, Bool.and_false, Bool.false_and, Bool.or_true, Bool.true_or, Bool.or_false, Bool.false_or, Bool.not_true, Bool.not_false, Bool.and_self, Bool.or_self,
  List.getElem?_cons_zero, List.getElem?_cons_succ, List.set_cons_zero, List.set_cons_succ, List.getElem?_nil, if_true, reduceIte, Bool.false_eq_true, belows, below, Nat.le_refl, reduceCtorEq, e_lc, k_lc, k_lc2, e_yes, l_nil, l_cons, k_l1, k_l2t, k_l2f, k_l3, e_r1, k_r1N, e_en, k_enL, k_enT, e_mkE, k_mkE, e_erF, k_erF, e_isE, wipeM]
  exact ⟨_, _, _, _, _, _, _, _, _, _, _, _, _, _, _, rfl⟩
theorem law_true : ∀ ns : List Int, ns.length ≤ 63 → ∃ h, F_law [scrM ns] [] = .ok (.bl true) h := by
  intro ns hn
  obtain ⟨N, hN, n0, n1⟩ : ∃ N : Int, (if (if (ns.length : Int) < 3 then (ns.length : Int) else 3) > 1 then (if (ns.length : Int) < 3 then (ns.length : Int) else 3) else 1) = N ∧ 0 ≤ N ∧ N ≤ 3 := ⟨_, rfl, by split <;> (try split) <;> omega, by split <;> (try split) <;> omega⟩
  obtain ⟨s', h', e, a2, a3, a4, a5, a6, a7, a8, a9, a10, a11, a12, a13, a14, a15, a16, rfl⟩ := run_inv (P := fun s h => ∃ a2 a3 a4 a5 a6 a7 a8 a9 a10 a11 a12 a13 a14 a15 a16, s = [.val (scrM ns), .val (.lst oddL), a2, a3, a4, a5, a6, a7, a8, a9, a10, a11, a12, a13, a14, a15, a16]) (g := gN 2) (body := B_law_3) (zs := rangeM 0 N.toNat) (xs := rangeM 0 N.toNat)
    (s := [.val (scrM ns), .val (.lst oddL), .non, .non, .non, .non, .non, .non, .non, .non, .non, .non, .non, .non, .non, .non, .non]) (h := []) ⟨_, _, _, _, _, _, _, _, _, _, _, _, _, _, _, rfl⟩ (by
      rintro v hv s h ⟨a2, a3, a4, a5, a6, a7, a8, a9, a10, a11, a12, a13, a14, a15, a16, rfl⟩
      obtain ⟨i, hi, rfl⟩ := List.mem_map.mp hv
      have hi := List.mem_range.mp hi
      obtain ⟨u3, u4, u5, u6, u7, u8, u9, u10, u11, u12, u13, u14, u15, u16, h', e⟩ := turn_ok ns (0 + (i : Int)) (by omega) (by omega) a3 a4 a5 a6 a7 a8 a9 a10 a11 a12 a13 a14 a15 a16 h
      exact ⟨_, _, _, _, e_gn _ _ _ _, .inl e, _, _, _, _, _, _, _, _, _, _, _, _, _, _, _, rfl⟩)
  refine ⟨h', ?_⟩
  unfold F_law
  have l1 : ([.str "", .str "x", .str "a b", .non, .bl true, .bl false, .int 0, .int 7, .int (-3), .lst [.str "a"], .tup [.str "b", .int 1], .tup [], .lst [], .lst [.lst [.int 1], .tup [.str "c"]], .int 100000000000000000000000000000] : List MV) = oddL := rfl
  have l2 : oddL.length ≤ 1000000 := by decide
  unfold scrM at e ⊢
  simp only [l1, v_newL _ _ l2, List.length_map, hN, k_r1 _ n0 (show N ≤ 1000000000 by omega), e, e_fun, finR_rt, finR_nx, finR_exc, fin_raw, finX_raw, List.map_cons, List.map_nil, List.replicate_succ, List.replicate_zero, List.cons_append, List.nil_append, List.append_nil, List.length_cons, List.length_nil, Nat.zero_add, Nat.reduceAdd, Nat.reduceLeDiff, Nat.reduceLT, Nat.zero_lt_succ, Nat.add_one_pos,  String.reduceBEq, v_isiS, v_isiI, v_isiB, v_isiT, v_isiL, isiR_some, tyM, subT,
  e_var, getS_val, e_k, e_nil, e_cons, k_cons1, k_cons1x, k_cons2, k_cons2x, e_tup, k_tup, k_tupx, e_lst, k_lst, k_lstx, e_op, k_op1, k_op1x, k_op2, k_op2x, e_test, asB_ok, asB_x, noX_ok, e_chain, k_ch1, k_ch2, k_ch3t, k_ch3f, e_and, k_andt, k_andf, e_or, k_ort, k_orf, e_not, k_not, e_if, k_ift, k_iff,
  e_tand, k_tandt, k_tandf, e_tor, k_tort, k_torf, e_tnot, k_tnot, e_tru, k_tru, k_trux, onRef_lst, blR_t, truR_some, tru_bl, tru_int, tru_lst, tru_tup, e_cb, k_cb, k_cbx, e_on1, e_on2, e_call, k_call, k_callx, e_neg, k_neg, e_lm, k_lm, k_lm2, k_lm2x, e_sm, k_sm, e_pn, e_ps, k_ps, e_sl, k_sl1, k_sl2, k_sl3, e_rev, k_rev,
  e_errF, e_errIs, k_errF, k_errIs, opR_some, e_seq, seqS_nx, seqS_rt, seqS_bk, seqS_ct, seqS_exc, e_nx, e_bk, e_ct, e_drop, k_drop, k_dropx, e_ret, k_ret, k_retx, e_retN, e_ifS, k_ifSt, k_ifSf, k_ifSx, e_set, k_set, k_setx, e_asg, k_asg, k_asgx, k_asg2, e_par, k_par, e_gn, e_gs0, e_gs1, k_gs, e_gtp, e_sb, k_sb1, k_sb2,
  e_raise, k_raise, e_it, k_it, e_for, k_for, run_nil, run_cons, k_turn, k_turnN, k_turnC, k_turnB, k_turnR, k_turnX, src_str, src_tup, src_lst, src_scr, e_try, k_try, k_tryx, k_catch0, k_catchT, k_catchF, k_goneR,
  v_newT, v_newL, v_newR, v_addI, v_addL, v_addT, v_addRL, v_dif, v_eqS, v_eqI, v_neS, v_neI, v_inT, v_inL, v_niT, v_niL, v_isn, v_is, nonM, v_lenL, v_lenT, v_lenC, v_lenR, v_abs, v_intI, v_intB, v_max, v_min, v_listL, v_listT, v_listR, v_tupL, v_tupT, v_tupR, v_ltI, v_leI, v_gtI, v_geI, v_cutC, v_cutL, v_cutT, v_cutR, v_revL, v_app, v_inR, v_ixL, v_ixT, v_ixC, v_ixR,
  at_lit, at_last, ix_lit, v_mulN, v_mulM, v_mulL0, v_mulL1, Nat.zero_le, v_divN, v_powN, v_mod, sbO_some, v_sb, v_pop0, pop0_cons, Int.reduceLT, Int.reduceLE, Int.reducePow, Int.reduceNeg, Int.reduceAdd, Int.reduceSub, Int.reduceMul, h_last, h_set, fin_app, fin_self, setR_some, set_tup, set_lst, set_ref, setO_lst, Nat.lt_irrefl,
  flatM, inF_nil, inF_cons, eqF, List.all_cons, List.all_nil, List.any_cons, List.any_nil, str_beq, str_lit, String.reduceEq, decide_true, decide_false, decide_eq_true_eq, Bool.and_true, Bool.true_and, Bool.and_false, Bool.false_and, Bool.or_true, Bool.true_or, Bool.or_false, Bool.false_or, Bool.not_true, Bool.not_false, Bool.and_self, Bool.or_self,
  List.getElem?_cons_zero, List.getElem?_cons_succ, List.set_cons_zero, List.set_cons_succ, List.getElem?_nil, if_true, reduceIte, Bool.false_eq_true, belows, below, Nat.le_refl, reduceCtorEq, e_lc, k_lc, k_lc2, e_yes, l_nil, l_cons, k_l1, k_l2t, k_l2f, k_l3, e_r1, k_r1N, e_en, k_enL, k_enT, e_mkE, k_mkE, e_erF, k_erF, e_isE, wipeM]
end L
set_option Elab.async false
set_option linter.all false
set_option maxRecDepth 100000
set_option maxHeartbeats 4000000
namespace L
open PySem PySem.Spec L2 G M
theorem tabs_mk {K : PySem.W.Frag} {mg : Str → Option Value} {C0 C1 C2 C3 C4 C5 C6 C7 C8 C9 C10 C11 C12 C13 C14 C15 C16 C17 C18 C19 C20 C21 C22 C23 C24 C25 C26 C27 C28 : Addr} (A : AllC K mg [("NoRow", C0), ("NoPlace", C1), ("NoHandler", C2), ("BadName", C3), ("BadPlace", C4), ("BadSlide", C5), ("NoInverse", C6), ("Twice", C7), ("BadOperation", C8), ("BadCall", C9), ("BadVisit", C10), ("BadLine", C11), ("BadStep", C12), ("BadText", C13), ("BadWorld", C14), ("BadNumber", C15), ("BadSpot", C16), ("BadBound", C17), ("BadKind", C18), ("OtherOperation", C19), ("BadOrder", C20), ("BadPair", C21), ("BadRule", C22), ("BadMend", C23), ("TooMany", C24), ("Clash", C25), ("CallFailed", C26), ("MissingError", C27), ("PlaceError", C28)]) (Mm : AllM K mg [("NoRow", C0), ("NoPlace", C1), ("NoHandler", C2), ("BadName", C3), ("BadPlace", C4), ("BadSlide", C5), ("NoInverse", C6), ("Twice", C7), ("BadOperation", C8), ("BadCall", C9), ("BadVisit", C10), ("BadLine", C11), ("BadStep", C12), ("BadText", C13), ("BadWorld", C14), ("BadNumber", C15), ("BadSpot", C16), ("BadBound", C17), ("BadKind", C18), ("OtherOperation", C19), ("BadOrder", C20), ("BadPair", C21), ("BadRule", C22), ("BadMend", C23), ("TooMany", C24), ("Clash", C25), ("CallFailed", C26), ("MissingError", C27), ("PlaceError", C28)] errBas errB) (nd : ([C0, C1, C2, C3, C4, C5, C6, C7, C8, C9, C10, C11, C12, C13, C14, C15, C16, C17, C18, C19, C20, C21, C22, C23, C24, C25, C26, C27, C28] : List Addr).Nodup) : KTab K mg kinO ∧ KTaB K mg kinX ∧ Sub K mg subE :=
  ⟨ktab_mk A Mm nd, ktaB_mk A Mm, subT_mk A Mm nd⟩
theorem all_mk {P : Program} {w : World} {K : PySem.W.Frag} {h : Heap} {mg : Str → Option Value} (KX : K.In h) (ns : h.Ns mainGlobals mg)
    (d__law_bag : ∃ f fd, Dfn K mg "_law_bag" s__law_bag f fd)
    (d__law_draw : ∃ f fd, Dfn K mg "_law_draw" s__law_draw f fd)
    (d__law_of : ∃ f fd, Dfn K mg "_law_of" s__law_of f fd)
    (d__law_made : ∃ f fd, Dfn K mg "_law_made" s__law_made f fd)
    (d__law_told : ∃ f fd, Dfn K mg "_law_told" s__law_told f fd)
    (d__law_classes : ∃ f fd, Dfn K mg "_law_classes" s__law_classes f fd)
    (d_law : ∃ f fd, Dfn K mg "law" s_law f fd)
    (T : Txt P K mg) (base : Heap) : Cal P w K mg base CX0 3 "law" (spLaw K) := by
  obtain ⟨f0, fd0, F0⟩ := d__law_bag
  have C__law_bag := ok__law_bag (P := P) (w := w) (base := base) F0 T
  obtain ⟨f1, fd1, F1⟩ := d__law_draw
  have C__law_draw := ok__law_draw (P := P) (w := w) (base := base) F1 T
  obtain ⟨f2, fd2, F2⟩ := d__law_of
  have C__law_of := ok__law_of (P := P) (w := w) (base := base) F2 T C__law_draw
  obtain ⟨f3, fd3, F3⟩ := d__law_made
  have C__law_made := ok__law_made (P := P) (w := w) (base := base) F3 T
  obtain ⟨f4, fd4, F4⟩ := d__law_told
  have C__law_told := ok__law_told (P := P) (w := w) (base := base) F4 T
  obtain ⟨f5, fd5, F5⟩ := d__law_classes
  have C__law_classes := ok__law_classes (P := P) (w := w) (base := base) F5 T
  obtain ⟨f6, fd6, F6⟩ := d_law
  have C_law := ok_law (P := P) (w := w) (base := base) F6 T C__law_bag C__law_draw C__law_of C__law_made C__law_told C__law_classes
  exact law_cal C_law law_true
end L
open PySem PySem.W PyProof.Rows
set_option maxHeartbeats 0
open_top hd for PySem.Challenge.rw_rowsinplace_k90_errors_made
theorem PySem.Challenge.cw_rowsinplace_k90_errors_made_holds : PySem.Challenge.rw_rowsinplace_k90_errors_made.Holds := by
  refine hd (G.end_walk (l := PySem.Challenge.rw_rowsinplace_k90_errors_made) (n := 63) (k := 3) (sp := M.spLaw) rfl (by decide) rfl ⟨rfl, by decide, by decide⟩ (fun w h Y => PySem.W.kIn_of Y) ?F (fun _ _ a ms hl hS => ⟨a, ms, rfl, hS, hl, fun _ => rfl⟩))
  intro w mg h KX ns base
  refine' L.all_mk KX ns (G.dfn_mk KX ns ?e0 ?l0 ?c0 ?k0) (G.dfn_mk KX ns ?e1 ?l1 ?c1 ?k1) (G.dfn_mk KX ns ?e2 ?l2 ?c2 ?k2) (G.dfn_mk KX ns ?e3 ?l3 ?c3 ?k3) (G.dfn_mk KX ns ?e4 ?l4 ?c4 ?k4) (G.dfn_mk KX ns ?e5 ?l5 ?c5 ?k5) (G.dfn_mk KX ns ?e6 ?l6 ?c6 ?k6) ⟨PySem.W.mg_none_of KX ns ?b_len, PySem.W.mg_none_of KX ns ?b_abs, PySem.W.mg_none_of KX ns ?b_int, PySem.W.mg_none_of KX ns ?b_super, PySem.W.mg_none_of KX ns ?b_isinstance, PySem.W.mg_none_of KX ns ?b_min, PySem.W.mg_none_of KX ns ?b_max, PySem.W.mg_none_of KX ns ?b_range, PySem.W.mg_none_of KX ns ?b_repr, PySem.W.mg_none_of KX ns ?b_enumerate, PySem.W.mg_none_of KX ns ?b_LookupError, PySem.W.mg_none_of KX ns ?b_ValueError, M.einfG_mk M.eb_VE KX ns ?xTwice_aC ?xTwice_lC ?xTwice_lP ?xTwice_fP ?xTwice_sa (.cons ?xTwice_f0 .nil) ?xTwice_fi ?xTwice_tI ?xTwice_lI ?xTwice_cI ?xTwice_lcd ?xTwice_vf ?xTwice_ff ?xTwice_lcc ?xTwice_hP ?xTwice_hB ?xTwice_hS ?xTwice_bnd ?xTwice_ty ?xTwice_opq ?xTwice_top ?xTwice_kC ?xTwice_exC ?xTwice_tyC ?xTwice_hdC ?xTwice_ga ?xTwice_gg ?xTwice_ha ?xTwice_hn ?xTwice_ht ?xTwice_hm ?xTwice_nd, M.einfG_mk M.eb_VE KX ns ?xNoInverse_aC ?xNoInverse_lC ?xNoInverse_lP ?xNoInverse_fP ?xNoInverse_sa (.cons ?xNoInverse_f0 .nil) ?xNoInverse_fi ?xNoInverse_tI ?xNoInverse_lI ?xNoInverse_cI ?xNoInverse_lcd ?xNoInverse_vf ?xNoInverse_ff ?xNoInverse_lcc ?xNoInverse_hP ?xNoInverse_hB ?xNoInverse_hS ?xNoInverse_bnd ?xNoInverse_ty ?xNoInverse_opq ?xNoInverse_top ?xNoInverse_kC ?xNoInverse_exC ?xNoInverse_tyC ?xNoInverse_hdC ?xNoInverse_ga ?xNoInverse_gg ?xNoInverse_ha ?xNoInverse_hn ?xNoInverse_ht ?xNoInverse_hm ?xNoInverse_nd, M.einfG_mk M.eb_VE KX ns ?xBadSlide_aC ?xBadSlide_lC ?xBadSlide_lP ?xBadSlide_fP ?xBadSlide_sa (.cons ?xBadSlide_f0 .nil) ?xBadSlide_fi ?xBadSlide_tI ?xBadSlide_lI ?xBadSlide_cI ?xBadSlide_lcd ?xBadSlide_vf ?xBadSlide_ff ?xBadSlide_lcc ?xBadSlide_hP ?xBadSlide_hB ?xBadSlide_hS ?xBadSlide_bnd ?xBadSlide_ty ?xBadSlide_opq ?xBadSlide_top ?xBadSlide_kC ?xBadSlide_exC ?xBadSlide_tyC ?xBadSlide_hdC ?xBadSlide_ga ?xBadSlide_gg ?xBadSlide_ha ?xBadSlide_hn ?xBadSlide_ht ?xBadSlide_hm ?xBadSlide_nd, M.einfG_mk M.eb_VE KX ns ?xBadPlace_aC ?xBadPlace_lC ?xBadPlace_lP ?xBadPlace_fP ?xBadPlace_sa (.cons ?xBadPlace_f0 .nil) ?xBadPlace_fi ?xBadPlace_tI ?xBadPlace_lI ?xBadPlace_cI ?xBadPlace_lcd ?xBadPlace_vf ?xBadPlace_ff ?xBadPlace_lcc ?xBadPlace_hP ?xBadPlace_hB ?xBadPlace_hS ?xBadPlace_bnd ?xBadPlace_ty ?xBadPlace_opq ?xBadPlace_top ?xBadPlace_kC ?xBadPlace_exC ?xBadPlace_tyC ?xBadPlace_hdC ?xBadPlace_ga ?xBadPlace_gg ?xBadPlace_ha ?xBadPlace_hn ?xBadPlace_ht ?xBadPlace_hm ?xBadPlace_nd, M.einfG_mk M.eb_VE KX ns ?xBadName_aC ?xBadName_lC ?xBadName_lP ?xBadName_fP ?xBadName_sa (.cons ?xBadName_f0 .nil) ?xBadName_fi ?xBadName_tI ?xBadName_lI ?xBadName_cI ?xBadName_lcd ?xBadName_vf ?xBadName_ff ?xBadName_lcc ?xBadName_hP ?xBadName_hB ?xBadName_hS ?xBadName_bnd ?xBadName_ty ?xBadName_opq ?xBadName_top ?xBadName_kC ?xBadName_exC ?xBadName_tyC ?xBadName_hdC ?xBadName_ga ?xBadName_gg ?xBadName_ha ?xBadName_hn ?xBadName_ht ?xBadName_hm ?xBadName_nd, M.einfG_mk M.eb_LE KX ns ?xNoHandler_aC ?xNoHandler_lC ?xNoHandler_lP ?xNoHandler_fP ?xNoHandler_sa (.cons ?xNoHandler_f0 .nil) ?xNoHandler_fi ?xNoHandler_tI ?xNoHandler_lI ?xNoHandler_cI ?xNoHandler_lcd ?xNoHandler_vf ?xNoHandler_ff ?xNoHandler_lcc ?xNoHandler_hP ?xNoHandler_hB ?xNoHandler_hS ?xNoHandler_bnd ?xNoHandler_ty ?xNoHandler_opq ?xNoHandler_top ?xNoHandler_kC ?xNoHandler_exC ?xNoHandler_tyC ?xNoHandler_hdC ?xNoHandler_ga ?xNoHandler_gg ?xNoHandler_ha ?xNoHandler_hn ?xNoHandler_ht ?xNoHandler_hm ?xNoHandler_nd, M.einfG_mk M.eb_LE KX ns ?xNoPlace_aC ?xNoPlace_lC ?xNoPlace_lP ?xNoPlace_fP ?xNoPlace_sa (.cons ?xNoPlace_f0 (.cons ?xNoPlace_f1 .nil)) ?xNoPlace_fi ?xNoPlace_tI ?xNoPlace_lI ?xNoPlace_cI ?xNoPlace_lcd ?xNoPlace_vf ?xNoPlace_ff ?xNoPlace_lcc ?xNoPlace_hP ?xNoPlace_hB ?xNoPlace_hS ?xNoPlace_bnd ?xNoPlace_ty ?xNoPlace_opq ?xNoPlace_top ?xNoPlace_kC ?xNoPlace_exC ?xNoPlace_tyC ?xNoPlace_hdC ?xNoPlace_ga ?xNoPlace_gg ?xNoPlace_ha ?xNoPlace_hn ?xNoPlace_ht ?xNoPlace_hm ?xNoPlace_nd, M.einfG_mk M.eb_LE KX ns ?xNoRow_aC ?xNoRow_lC ?xNoRow_lP ?xNoRow_fP ?xNoRow_sa (.cons ?xNoRow_f0 .nil) ?xNoRow_fi ?xNoRow_tI ?xNoRow_lI ?xNoRow_cI ?xNoRow_lcd ?xNoRow_vf ?xNoRow_ff ?xNoRow_lcc ?xNoRow_hP ?xNoRow_hB ?xNoRow_hS ?xNoRow_bnd ?xNoRow_ty ?xNoRow_opq ?xNoRow_top ?xNoRow_kC ?xNoRow_exC ?xNoRow_tyC ?xNoRow_hdC ?xNoRow_ga ?xNoRow_gg ?xNoRow_ha ?xNoRow_hn ?xNoRow_ht ?xNoRow_hm ?xNoRow_nd, M.einfG_mk M.eb_VE KX ns ?xBadWorld_aC ?xBadWorld_lC ?xBadWorld_lP ?xBadWorld_fP ?xBadWorld_sa (.cons ?xBadWorld_f0 .nil) ?xBadWorld_fi ?xBadWorld_tI ?xBadWorld_lI ?xBadWorld_cI ?xBadWorld_lcd ?xBadWorld_vf ?xBadWorld_ff ?xBadWorld_lcc ?xBadWorld_hP ?xBadWorld_hB ?xBadWorld_hS ?xBadWorld_bnd ?xBadWorld_ty ?xBadWorld_opq ?xBadWorld_top ?xBadWorld_kC ?xBadWorld_exC ?xBadWorld_tyC ?xBadWorld_hdC ?xBadWorld_ga ?xBadWorld_gg ?xBadWorld_ha ?xBadWorld_hn ?xBadWorld_ht ?xBadWorld_hm ?xBadWorld_nd, M.einfG_mk M.eb_VE KX ns ?xBadText_aC ?xBadText_lC ?xBadText_lP ?xBadText_fP ?xBadText_sa (.cons ?xBadText_f0 .nil) ?xBadText_fi ?xBadText_tI ?xBadText_lI ?xBadText_cI ?xBadText_lcd ?xBadText_vf ?xBadText_ff ?xBadText_lcc ?xBadText_hP ?xBadText_hB ?xBadText_hS ?xBadText_bnd ?xBadText_ty ?xBadText_opq ?xBadText_top ?xBadText_kC ?xBadText_exC ?xBadText_tyC ?xBadText_hdC ?xBadText_ga ?xBadText_gg ?xBadText_ha ?xBadText_hn ?xBadText_ht ?xBadText_hm ?xBadText_nd, M.einfG_mk M.eb_VE KX ns ?xBadStep_aC ?xBadStep_lC ?xBadStep_lP ?xBadStep_fP ?xBadStep_sa (.cons ?xBadStep_f0 .nil) ?xBadStep_fi ?xBadStep_tI ?xBadStep_lI ?xBadStep_cI ?xBadStep_lcd ?xBadStep_vf ?xBadStep_ff ?xBadStep_lcc ?xBadStep_hP ?xBadStep_hB ?xBadStep_hS ?xBadStep_bnd ?xBadStep_ty ?xBadStep_opq ?xBadStep_top ?xBadStep_kC ?xBadStep_exC ?xBadStep_tyC ?xBadStep_hdC ?xBadStep_ga ?xBadStep_gg ?xBadStep_ha ?xBadStep_hn ?xBadStep_ht ?xBadStep_hm ?xBadStep_nd, M.einfG_mk M.eb_VE KX ns ?xBadLine_aC ?xBadLine_lC ?xBadLine_lP ?xBadLine_fP ?xBadLine_sa (.cons ?xBadLine_f0 .nil) ?xBadLine_fi ?xBadLine_tI ?xBadLine_lI ?xBadLine_cI ?xBadLine_lcd ?xBadLine_vf ?xBadLine_ff ?xBadLine_lcc ?xBadLine_hP ?xBadLine_hB ?xBadLine_hS ?xBadLine_bnd ?xBadLine_ty ?xBadLine_opq ?xBadLine_top ?xBadLine_kC ?xBadLine_exC ?xBadLine_tyC ?xBadLine_hdC ?xBadLine_ga ?xBadLine_gg ?xBadLine_ha ?xBadLine_hn ?xBadLine_ht ?xBadLine_hm ?xBadLine_nd, M.einfG_mk M.eb_VE KX ns ?xBadVisit_aC ?xBadVisit_lC ?xBadVisit_lP ?xBadVisit_fP ?xBadVisit_sa (.cons ?xBadVisit_f0 .nil) ?xBadVisit_fi ?xBadVisit_tI ?xBadVisit_lI ?xBadVisit_cI ?xBadVisit_lcd ?xBadVisit_vf ?xBadVisit_ff ?xBadVisit_lcc ?xBadVisit_hP ?xBadVisit_hB ?xBadVisit_hS ?xBadVisit_bnd ?xBadVisit_ty ?xBadVisit_opq ?xBadVisit_top ?xBadVisit_kC ?xBadVisit_exC ?xBadVisit_tyC ?xBadVisit_hdC ?xBadVisit_ga ?xBadVisit_gg ?xBadVisit_ha ?xBadVisit_hn ?xBadVisit_ht ?xBadVisit_hm ?xBadVisit_nd, M.einfG_mk M.eb_VE KX ns ?xBadCall_aC ?xBadCall_lC ?xBadCall_lP ?xBadCall_fP ?xBadCall_sa (.cons ?xBadCall_f0 .nil) ?xBadCall_fi ?xBadCall_tI ?xBadCall_lI ?xBadCall_cI ?xBadCall_lcd ?xBadCall_vf ?xBadCall_ff ?xBadCall_lcc ?xBadCall_hP ?xBadCall_hB ?xBadCall_hS ?xBadCall_bnd ?xBadCall_ty ?xBadCall_opq ?xBadCall_top ?xBadCall_kC ?xBadCall_exC ?xBadCall_tyC ?xBadCall_hdC ?xBadCall_ga ?xBadCall_gg ?xBadCall_ha ?xBadCall_hn ?xBadCall_ht ?xBadCall_hm ?xBadCall_nd, M.einfG_mk M.eb_VE KX ns ?xBadOperation_aC ?xBadOperation_lC ?xBadOperation_lP ?xBadOperation_fP ?xBadOperation_sa (.cons ?xBadOperation_f0 .nil) ?xBadOperation_fi ?xBadOperation_tI ?xBadOperation_lI ?xBadOperation_cI ?xBadOperation_lcd ?xBadOperation_vf ?xBadOperation_ff ?xBadOperation_lcc ?xBadOperation_hP ?xBadOperation_hB ?xBadOperation_hS ?xBadOperation_bnd ?xBadOperation_ty ?xBadOperation_opq ?xBadOperation_top ?xBadOperation_kC ?xBadOperation_exC ?xBadOperation_tyC ?xBadOperation_hdC ?xBadOperation_ga ?xBadOperation_gg ?xBadOperation_ha ?xBadOperation_hn ?xBadOperation_ht ?xBadOperation_hm ?xBadOperation_nd, M.einfG_mk M.eb_VE KX ns ?xBadPair_aC ?xBadPair_lC ?xBadPair_lP ?xBadPair_fP ?xBadPair_sa (.cons ?xBadPair_f0 (.cons ?xBadPair_f1 .nil)) ?xBadPair_fi ?xBadPair_tI ?xBadPair_lI ?xBadPair_cI ?xBadPair_lcd ?xBadPair_vf ?xBadPair_ff ?xBadPair_lcc ?xBadPair_hP ?xBadPair_hB ?xBadPair_hS ?xBadPair_bnd ?xBadPair_ty ?xBadPair_opq ?xBadPair_top ?xBadPair_kC ?xBadPair_exC ?xBadPair_tyC ?xBadPair_hdC ?xBadPair_ga ?xBadPair_gg ?xBadPair_ha ?xBadPair_hn ?xBadPair_ht ?xBadPair_hm ?xBadPair_nd, M.einfG_mk M.eb_VE KX ns ?xBadOrder_aC ?xBadOrder_lC ?xBadOrder_lP ?xBadOrder_fP ?xBadOrder_sa (.cons ?xBadOrder_f0 .nil) ?xBadOrder_fi ?xBadOrder_tI ?xBadOrder_lI ?xBadOrder_cI ?xBadOrder_lcd ?xBadOrder_vf ?xBadOrder_ff ?xBadOrder_lcc ?xBadOrder_hP ?xBadOrder_hB ?xBadOrder_hS ?xBadOrder_bnd ?xBadOrder_ty ?xBadOrder_opq ?xBadOrder_top ?xBadOrder_kC ?xBadOrder_exC ?xBadOrder_tyC ?xBadOrder_hdC ?xBadOrder_ga ?xBadOrder_gg ?xBadOrder_ha ?xBadOrder_hn ?xBadOrder_ht ?xBadOrder_hm ?xBadOrder_nd, M.einfG_mk M.eb_VE KX ns ?xOtherOperation_aC ?xOtherOperation_lC ?xOtherOperation_lP ?xOtherOperation_fP ?xOtherOperation_sa (.cons ?xOtherOperation_f0 .nil) ?xOtherOperation_fi ?xOtherOperation_tI ?xOtherOperation_lI ?xOtherOperation_cI ?xOtherOperation_lcd ?xOtherOperation_vf ?xOtherOperation_ff ?xOtherOperation_lcc ?xOtherOperation_hP ?xOtherOperation_hB ?xOtherOperation_hS ?xOtherOperation_bnd ?xOtherOperation_ty ?xOtherOperation_opq ?xOtherOperation_top ?xOtherOperation_kC ?xOtherOperation_exC ?xOtherOperation_tyC ?xOtherOperation_hdC ?xOtherOperation_ga ?xOtherOperation_gg ?xOtherOperation_ha ?xOtherOperation_hn ?xOtherOperation_ht ?xOtherOperation_hm ?xOtherOperation_nd, M.einfG_mk M.eb_VE KX ns ?xBadKind_aC ?xBadKind_lC ?xBadKind_lP ?xBadKind_fP ?xBadKind_sa (.cons ?xBadKind_f0 .nil) ?xBadKind_fi ?xBadKind_tI ?xBadKind_lI ?xBadKind_cI ?xBadKind_lcd ?xBadKind_vf ?xBadKind_ff ?xBadKind_lcc ?xBadKind_hP ?xBadKind_hB ?xBadKind_hS ?xBadKind_bnd ?xBadKind_ty ?xBadKind_opq ?xBadKind_top ?xBadKind_kC ?xBadKind_exC ?xBadKind_tyC ?xBadKind_hdC ?xBadKind_ga ?xBadKind_gg ?xBadKind_ha ?xBadKind_hn ?xBadKind_ht ?xBadKind_hm ?xBadKind_nd, M.einfG_mk M.eb_VE KX ns ?xBadBound_aC ?xBadBound_lC ?xBadBound_lP ?xBadBound_fP ?xBadBound_sa (.cons ?xBadBound_f0 .nil) ?xBadBound_fi ?xBadBound_tI ?xBadBound_lI ?xBadBound_cI ?xBadBound_lcd ?xBadBound_vf ?xBadBound_ff ?xBadBound_lcc ?xBadBound_hP ?xBadBound_hB ?xBadBound_hS ?xBadBound_bnd ?xBadBound_ty ?xBadBound_opq ?xBadBound_top ?xBadBound_kC ?xBadBound_exC ?xBadBound_tyC ?xBadBound_hdC ?xBadBound_ga ?xBadBound_gg ?xBadBound_ha ?xBadBound_hn ?xBadBound_ht ?xBadBound_hm ?xBadBound_nd, M.einfG_mk M.eb_VE KX ns ?xBadSpot_aC ?xBadSpot_lC ?xBadSpot_lP ?xBadSpot_fP ?xBadSpot_sa (.cons ?xBadSpot_f0 .nil) ?xBadSpot_fi ?xBadSpot_tI ?xBadSpot_lI ?xBadSpot_cI ?xBadSpot_lcd ?xBadSpot_vf ?xBadSpot_ff ?xBadSpot_lcc ?xBadSpot_hP ?xBadSpot_hB ?xBadSpot_hS ?xBadSpot_bnd ?xBadSpot_ty ?xBadSpot_opq ?xBadSpot_top ?xBadSpot_kC ?xBadSpot_exC ?xBadSpot_tyC ?xBadSpot_hdC ?xBadSpot_ga ?xBadSpot_gg ?xBadSpot_ha ?xBadSpot_hn ?xBadSpot_ht ?xBadSpot_hm ?xBadSpot_nd, M.einfG_mk M.eb_VE KX ns ?xBadNumber_aC ?xBadNumber_lC ?xBadNumber_lP ?xBadNumber_fP ?xBadNumber_sa (.cons ?xBadNumber_f0 .nil) ?xBadNumber_fi ?xBadNumber_tI ?xBadNumber_lI ?xBadNumber_cI ?xBadNumber_lcd ?xBadNumber_vf ?xBadNumber_ff ?xBadNumber_lcc ?xBadNumber_hP ?xBadNumber_hB ?xBadNumber_hS ?xBadNumber_bnd ?xBadNumber_ty ?xBadNumber_opq ?xBadNumber_top ?xBadNumber_kC ?xBadNumber_exC ?xBadNumber_tyC ?xBadNumber_hdC ?xBadNumber_ga ?xBadNumber_gg ?xBadNumber_ha ?xBadNumber_hn ?xBadNumber_ht ?xBadNumber_hm ?xBadNumber_nd, M.einfG_mk M.eb_VE KX ns ?xCallFailed_aC ?xCallFailed_lC ?xCallFailed_lP ?xCallFailed_fP ?xCallFailed_sa (.cons ?xCallFailed_f0 (.cons ?xCallFailed_f1 .nil)) ?xCallFailed_fi ?xCallFailed_tI ?xCallFailed_lI ?xCallFailed_cI ?xCallFailed_lcd ?xCallFailed_vf ?xCallFailed_ff ?xCallFailed_lcc ?xCallFailed_hP ?xCallFailed_hB ?xCallFailed_hS ?xCallFailed_bnd ?xCallFailed_ty ?xCallFailed_opq ?xCallFailed_top ?xCallFailed_kC ?xCallFailed_exC ?xCallFailed_tyC ?xCallFailed_hdC ?xCallFailed_ga ?xCallFailed_gg ?xCallFailed_ha ?xCallFailed_hn ?xCallFailed_ht ?xCallFailed_hm ?xCallFailed_nd, M.einfG_mk M.eb_VE KX ns ?xClash_aC ?xClash_lC ?xClash_lP ?xClash_fP ?xClash_sa (.cons ?xClash_f0 (.cons ?xClash_f1 (.cons ?xClash_f2 .nil))) ?xClash_fi ?xClash_tI ?xClash_lI ?xClash_cI ?xClash_lcd ?xClash_vf ?xClash_ff ?xClash_lcc ?xClash_hP ?xClash_hB ?xClash_hS ?xClash_bnd ?xClash_ty ?xClash_opq ?xClash_top ?xClash_kC ?xClash_exC ?xClash_tyC ?xClash_hdC ?xClash_ga ?xClash_gg ?xClash_ha ?xClash_hn ?xClash_ht ?xClash_hm ?xClash_nd, M.einfG_mk M.eb_VE KX ns ?xTooMany_aC ?xTooMany_lC ?xTooMany_lP ?xTooMany_fP ?xTooMany_sa (.cons ?xTooMany_f0 .nil) ?xTooMany_fi ?xTooMany_tI ?xTooMany_lI ?xTooMany_cI ?xTooMany_lcd ?xTooMany_vf ?xTooMany_ff ?xTooMany_lcc ?xTooMany_hP ?xTooMany_hB ?xTooMany_hS ?xTooMany_bnd ?xTooMany_ty ?xTooMany_opq ?xTooMany_top ?xTooMany_kC ?xTooMany_exC ?xTooMany_tyC ?xTooMany_hdC ?xTooMany_ga ?xTooMany_gg ?xTooMany_ha ?xTooMany_hn ?xTooMany_ht ?xTooMany_hm ?xTooMany_nd, M.einfG_mk M.eb_VE KX ns ?xBadMend_aC ?xBadMend_lC ?xBadMend_lP ?xBadMend_fP ?xBadMend_sa (.cons ?xBadMend_f0 .nil) ?xBadMend_fi ?xBadMend_tI ?xBadMend_lI ?xBadMend_cI ?xBadMend_lcd ?xBadMend_vf ?xBadMend_ff ?xBadMend_lcc ?xBadMend_hP ?xBadMend_hB ?xBadMend_hS ?xBadMend_bnd ?xBadMend_ty ?xBadMend_opq ?xBadMend_top ?xBadMend_kC ?xBadMend_exC ?xBadMend_tyC ?xBadMend_hdC ?xBadMend_ga ?xBadMend_gg ?xBadMend_ha ?xBadMend_hn ?xBadMend_ht ?xBadMend_hm ?xBadMend_nd, M.einfG_mk M.eb_VE KX ns ?xBadRule_aC ?xBadRule_lC ?xBadRule_lP ?xBadRule_fP ?xBadRule_sa (.cons ?xBadRule_f0 .nil) ?xBadRule_fi ?xBadRule_tI ?xBadRule_lI ?xBadRule_cI ?xBadRule_lcd ?xBadRule_vf ?xBadRule_ff ?xBadRule_lcc ?xBadRule_hP ?xBadRule_hB ?xBadRule_hS ?xBadRule_bnd ?xBadRule_ty ?xBadRule_opq ?xBadRule_top ?xBadRule_kC ?xBadRule_exC ?xBadRule_tyC ?xBadRule_hdC ?xBadRule_ga ?xBadRule_gg ?xBadRule_ha ?xBadRule_hn ?xBadRule_ht ?xBadRule_hm ?xBadRule_nd, ⟨_, PySem.W.mg_of KX ns ?c_BadName⟩, ⟨_, PySem.W.mg_of KX ns ?c_NoHandler⟩, ⟨_, PySem.W.mg_of KX ns ?c_NoPlace⟩, ⟨_, PySem.W.mg_of KX ns ?c_NoRow⟩, ⟨_, PySem.W.mg_of KX ns ?c_Twice⟩, ⟨_, PySem.W.mg_of KX ns ?c_NoInverse⟩, ⟨_, PySem.W.mg_of KX ns ?c_BadSlide⟩, ⟨_, PySem.W.mg_of KX ns ?c_BadPlace⟩, ⟨_, PySem.W.mg_of KX ns ?c_BadVisit⟩, ⟨_, PySem.W.mg_of KX ns ?c_BadCall⟩, ⟨_, PySem.W.mg_of KX ns ?c_BadOperation⟩, ⟨_, PySem.W.mg_of KX ns ?c_BadWorld⟩, ⟨_, PySem.W.mg_of KX ns ?c_BadText⟩, ⟨_, PySem.W.mg_of KX ns ?c_BadStep⟩, ⟨_, PySem.W.mg_of KX ns ?c_BadLine⟩, ⟨_, PySem.W.mg_of KX ns ?c_BadBound⟩, ⟨_, PySem.W.mg_of KX ns ?c_BadSpot⟩, ⟨_, PySem.W.mg_of KX ns ?c_BadNumber⟩, ⟨_, PySem.W.mg_of KX ns ?c_BadOrder⟩, ⟨_, PySem.W.mg_of KX ns ?c_OtherOperation⟩, ⟨_, PySem.W.mg_of KX ns ?c_BadKind⟩, ⟨_, PySem.W.mg_of KX ns ?c_TooMany⟩, ⟨_, PySem.W.mg_of KX ns ?c_BadMend⟩, ⟨_, PySem.W.mg_of KX ns ?c_BadRule⟩, ⟨_, PySem.W.mg_of KX ns ?c_BadPair⟩, ⟨_, PySem.W.mg_of KX ns ?c_CallFailed⟩, ⟨_, PySem.W.mg_of KX ns ?c_Clash⟩, ⟨_, PySem.W.mg_of KX ns ?c_MissingError⟩, ⟨_, PySem.W.mg_of KX ns ?c_PlaceError⟩, L.tabs_mk (.cons (PySem.W.mg_of KX ns ?t0_g) ?t0_i ?t0_t ?t0_e (.cons (PySem.W.mg_of KX ns ?t1_g) ?t1_i ?t1_t ?t1_e (.cons (PySem.W.mg_of KX ns ?t2_g) ?t2_i ?t2_t ?t2_e (.cons (PySem.W.mg_of KX ns ?t3_g) ?t3_i ?t3_t ?t3_e (.cons (PySem.W.mg_of KX ns ?t4_g) ?t4_i ?t4_t ?t4_e (.cons (PySem.W.mg_of KX ns ?t5_g) ?t5_i ?t5_t ?t5_e (.cons (PySem.W.mg_of KX ns ?t6_g) ?t6_i ?t6_t ?t6_e (.cons (PySem.W.mg_of KX ns ?t7_g) ?t7_i ?t7_t ?t7_e (.cons (PySem.W.mg_of KX ns ?t8_g) ?t8_i ?t8_t ?t8_e (.cons (PySem.W.mg_of KX ns ?t9_g) ?t9_i ?t9_t ?t9_e (.cons (PySem.W.mg_of KX ns ?t10_g) ?t10_i ?t10_t ?t10_e (.cons (PySem.W.mg_of KX ns ?t11_g) ?t11_i ?t11_t ?t11_e (.cons (PySem.W.mg_of KX ns ?t12_g) ?t12_i ?t12_t ?t12_e (.cons (PySem.W.mg_of KX ns ?t13_g) ?t13_i ?t13_t ?t13_e (.cons (PySem.W.mg_of KX ns ?t14_g) ?t14_i ?t14_t ?t14_e (.cons (PySem.W.mg_of KX ns ?t15_g) ?t15_i ?t15_t ?t15_e (.cons (PySem.W.mg_of KX ns ?t16_g) ?t16_i ?t16_t ?t16_e (.cons (PySem.W.mg_of KX ns ?t17_g) ?t17_i ?t17_t ?t17_e (.cons (PySem.W.mg_of KX ns ?t18_g) ?t18_i ?t18_t ?t18_e (.cons (PySem.W.mg_of KX ns ?t19_g) ?t19_i ?t19_t ?t19_e (.cons (PySem.W.mg_of KX ns ?t20_g) ?t20_i ?t20_t ?t20_e (.cons (PySem.W.mg_of KX ns ?t21_g) ?t21_i ?t21_t ?t21_e (.cons (PySem.W.mg_of KX ns ?t22_g) ?t22_i ?t22_t ?t22_e (.cons (PySem.W.mg_of KX ns ?t23_g) ?t23_i ?t23_t ?t23_e (.cons (PySem.W.mg_of KX ns ?t24_g) ?t24_i ?t24_t ?t24_e (.cons (PySem.W.mg_of KX ns ?t25_g) ?t25_i ?t25_t ?t25_e (.cons (PySem.W.mg_of KX ns ?t26_g) ?t26_i ?t26_t ?t26_e (.cons (PySem.W.mg_of KX ns ?t27_g) ?t27_i ?t27_t ?t27_e (.cons (PySem.W.mg_of KX ns ?t28_g) ?t28_i ?t28_t ?t28_e .nil))))))))))))))))))))))))))))) (.cons ?u0_l rfl ?u0_b (.head _) (.tail _ (.tail _ (.tail _ (.tail _ (.tail _ (.tail _ (.tail _ (.tail _ (.tail _ (.tail _ (.tail _ (.tail _ (.tail _ (.tail _ (.tail _ (.tail _ (.tail _ (.tail _ (.tail _ (.tail _ (.tail _ (.tail _ (.tail _ (.tail _ (.tail _ (.tail _ (.tail _ (.head _)))))))))))))))))))))))))))) (.cons ?u1_l rfl ?u1_b (.tail _ (.head _)) (.tail _ (.tail _ (.tail _ (.tail _ (.tail _ (.tail _ (.tail _ (.tail _ (.tail _ (.tail _ (.tail _ (.tail _ (.tail _ (.tail _ (.tail _ (.tail _ (.tail _ (.tail _ (.tail _ (.tail _ (.tail _ (.tail _ (.tail _ (.tail _ (.tail _ (.tail _ (.tail _ (.head _)))))))))))))))))))))))))))) (.cons ?u2_l rfl ?u2_b (.tail _ (.tail _ (.head _))) (.tail _ (.tail _ (.tail _ (.tail _ (.tail _ (.tail _ (.tail _ (.tail _ (.tail _ (.tail _ (.tail _ (.tail _ (.tail _ (.tail _ (.tail _ (.tail _ (.tail _ (.tail _ (.tail _ (.tail _ (.tail _ (.tail _ (.tail _ (.tail _ (.tail _ (.tail _ (.tail _ (.head _)))))))))))))))))))))))))))) (.cons ?u3_l rfl ?u3_b (.tail _ (.tail _ (.tail _ (.head _)))) (.tail _ (.tail _ (.tail _ (.tail _ (.tail _ (.tail _ (.tail _ (.tail _ (.tail _ (.tail _ (.tail _ (.tail _ (.tail _ (.tail _ (.tail _ (.tail _ (.tail _ (.tail _ (.tail _ (.tail _ (.tail _ (.tail _ (.tail _ (.tail _ (.tail _ (.tail _ (.tail _ (.tail _ (.head _))))))))))))))))))))))))))))) (.cons ?u4_l rfl ?u4_b (.tail _ (.tail _ (.tail _ (.tail _ (.head _))))) (.tail _ (.tail _ (.tail _ (.tail _ (.tail _ (.tail _ (.tail _ (.tail _ (.tail _ (.tail _ (.tail _ (.tail _ (.tail _ (.tail _ (.tail _ (.tail _ (.tail _ (.tail _ (.tail _ (.tail _ (.tail _ (.tail _ (.tail _ (.tail _ (.tail _ (.tail _ (.tail _ (.tail _ (.head _))))))))))))))))))))))))))))) (.cons ?u5_l rfl ?u5_b (.tail _ (.tail _ (.tail _ (.tail _ (.tail _ (.head _)))))) (.tail _ (.tail _ (.tail _ (.tail _ (.tail _ (.tail _ (.tail _ (.tail _ (.tail _ (.tail _ (.tail _ (.tail _ (.tail _ (.tail _ (.tail _ (.tail _ (.tail _ (.tail _ (.tail _ (.tail _ (.tail _ (.tail _ (.tail _ (.tail _ (.tail _ (.tail _ (.tail _ (.tail _ (.head _))))))))))))))))))))))))))))) (.cons ?u6_l rfl ?u6_b (.tail _ (.tail _ (.tail _ (.tail _ (.tail _ (.tail _ (.head _))))))) (.tail _ (.tail _ (.tail _ (.tail _ (.tail _ (.tail _ (.tail _ (.tail _ (.tail _ (.tail _ (.tail _ (.tail _ (.tail _ (.tail _ (.tail _ (.tail _ (.tail _ (.tail _ (.tail _ (.tail _ (.tail _ (.tail _ (.tail _ (.tail _ (.tail _ (.tail _ (.tail _ (.tail _ (.head _))))))))))))))))))))))))))))) (.cons ?u7_l rfl ?u7_b (.tail _ (.tail _ (.tail _ (.tail _ (.tail _ (.tail _ (.tail _ (.head _)))))))) (.tail _ (.tail _ (.tail _ (.tail _ (.tail _ (.tail _ (.tail _ (.tail _ (.tail _ (.tail _ (.tail _ (.tail _ (.tail _ (.tail _ (.tail _ (.tail _ (.tail _ (.tail _ (.tail _ (.tail _ (.tail _ (.tail _ (.tail _ (.tail _ (.tail _ (.tail _ (.tail _ (.tail _ (.head _))))))))))))))))))))))))))))) (.cons ?u8_l rfl ?u8_b (.tail _ (.tail _ (.tail _ (.tail _ (.tail _ (.tail _ (.tail _ (.tail _ (.head _))))))))) (.tail _ (.tail _ (.tail _ (.tail _ (.tail _ (.tail _ (.tail _ (.tail _ (.tail _ (.tail _ (.tail _ (.tail _ (.tail _ (.tail _ (.tail _ (.tail _ (.tail _ (.tail _ (.tail _ (.tail _ (.tail _ (.tail _ (.tail _ (.tail _ (.tail _ (.tail _ (.tail _ (.tail _ (.head _))))))))))))))))))))))))))))) (.cons ?u9_l rfl ?u9_b (.tail _ (.tail _ (.tail _ (.tail _ (.tail _ (.tail _ (.tail _ (.tail _ (.tail _ (.head _)))))))))) (.tail _ (.tail _ (.tail _ (.tail _ (.tail _ (.tail _ (.tail _ (.tail _ (.tail _ (.tail _ (.tail _ (.tail _ (.tail _ (.tail _ (.tail _ (.tail _ (.tail _ (.tail _ (.tail _ (.tail _ (.tail _ (.tail _ (.tail _ (.tail _ (.tail _ (.tail _ (.tail _ (.tail _ (.head _))))))))))))))))))))))))))))) (.cons ?u10_l rfl ?u10_b (.tail _ (.tail _ (.tail _ (.tail _ (.tail _ (.tail _ (.tail _ (.tail _ (.tail _ (.tail _ (.head _))))))))))) (.tail _ (.tail _ (.tail _ (.tail _ (.tail _ (.tail _ (.tail _ (.tail _ (.tail _ (.tail _ (.tail _ (.tail _ (.tail _ (.tail _ (.tail _ (.tail _ (.tail _ (.tail _ (.tail _ (.tail _ (.tail _ (.tail _ (.tail _ (.tail _ (.tail _ (.tail _ (.tail _ (.tail _ (.head _))))))))))))))))))))))))))))) (.cons ?u11_l rfl ?u11_b (.tail _ (.tail _ (.tail _ (.tail _ (.tail _ (.tail _ (.tail _ (.tail _ (.tail _ (.tail _ (.tail _ (.head _)))))))))))) (.tail _ (.tail _ (.tail _ (.tail _ (.tail _ (.tail _ (.tail _ (.tail _ (.tail _ (.tail _ (.tail _ (.tail _ (.tail _ (.tail _ (.tail _ (.tail _ (.tail _ (.tail _ (.tail _ (.tail _ (.tail _ (.tail _ (.tail _ (.tail _ (.tail _ (.tail _ (.tail _ (.tail _ (.head _))))))))))))))))))))))))))))) (.cons ?u12_l rfl ?u12_b (.tail _ (.tail _ (.tail _ (.tail _ (.tail _ (.tail _ (.tail _ (.tail _ (.tail _ (.tail _ (.tail _ (.tail _ (.head _))))))))))))) (.tail _ (.tail _ (.tail _ (.tail _ (.tail _ (.tail _ (.tail _ (.tail _ (.tail _ (.tail _ (.tail _ (.tail _ (.tail _ (.tail _ (.tail _ (.tail _ (.tail _ (.tail _ (.tail _ (.tail _ (.tail _ (.tail _ (.tail _ (.tail _ (.tail _ (.tail _ (.tail _ (.tail _ (.head _))))))))))))))))))))))))))))) (.cons ?u13_l rfl ?u13_b (.tail _ (.tail _ (.tail _ (.tail _ (.tail _ (.tail _ (.tail _ (.tail _ (.tail _ (.tail _ (.tail _ (.tail _ (.tail _ (.head _)))))))))))))) (.tail _ (.tail _ (.tail _ (.tail _ (.tail _ (.tail _ (.tail _ (.tail _ (.tail _ (.tail _ (.tail _ (.tail _ (.tail _ (.tail _ (.tail _ (.tail _ (.tail _ (.tail _ (.tail _ (.tail _ (.tail _ (.tail _ (.tail _ (.tail _ (.tail _ (.tail _ (.tail _ (.tail _ (.head _))))))))))))))))))))))))))))) (.cons ?u14_l rfl ?u14_b (.tail _ (.tail _ (.tail _ (.tail _ (.tail _ (.tail _ (.tail _ (.tail _ (.tail _ (.tail _ (.tail _ (.tail _ (.tail _ (.tail _ (.head _))))))))))))))) (.tail _ (.tail _ (.tail _ (.tail _ (.tail _ (.tail _ (.tail _ (.tail _ (.tail _ (.tail _ (.tail _ (.tail _ (.tail _ (.tail _ (.tail _ (.tail _ (.tail _ (.tail _ (.tail _ (.tail _ (.tail _ (.tail _ (.tail _ (.tail _ (.tail _ (.tail _ (.tail _ (.tail _ (.head _))))))))))))))))))))))))))))) (.cons ?u15_l rfl ?u15_b (.tail _ (.tail _ (.tail _ (.tail _ (.tail _ (.tail _ (.tail _ (.tail _ (.tail _ (.tail _ (.tail _ (.tail _ (.tail _ (.tail _ (.tail _ (.head _)))))))))))))))) (.tail _ (.tail _ (.tail _ (.tail _ (.tail _ (.tail _ (.tail _ (.tail _ (.tail _ (.tail _ (.tail _ (.tail _ (.tail _ (.tail _ (.tail _ (.tail _ (.tail _ (.tail _ (.tail _ (.tail _ (.tail _ (.tail _ (.tail _ (.tail _ (.tail _ (.tail _ (.tail _ (.tail _ (.head _))))))))))))))))))))))))))))) (.cons ?u16_l rfl ?u16_b (.tail _ (.tail _ (.tail _ (.tail _ (.tail _ (.tail _ (.tail _ (.tail _ (.tail _ (.tail _ (.tail _ (.tail _ (.tail _ (.tail _ (.tail _ (.tail _ (.head _))))))))))))))))) (.tail _ (.tail _ (.tail _ (.tail _ (.tail _ (.tail _ (.tail _ (.tail _ (.tail _ (.tail _ (.tail _ (.tail _ (.tail _ (.tail _ (.tail _ (.tail _ (.tail _ (.tail _ (.tail _ (.tail _ (.tail _ (.tail _ (.tail _ (.tail _ (.tail _ (.tail _ (.tail _ (.tail _ (.head _))))))))))))))))))))))))))))) (.cons ?u17_l rfl ?u17_b (.tail _ (.tail _ (.tail _ (.tail _ (.tail _ (.tail _ (.tail _ (.tail _ (.tail _ (.tail _ (.tail _ (.tail _ (.tail _ (.tail _ (.tail _ (.tail _ (.tail _ (.head _)))))))))))))))))) (.tail _ (.tail _ (.tail _ (.tail _ (.tail _ (.tail _ (.tail _ (.tail _ (.tail _ (.tail _ (.tail _ (.tail _ (.tail _ (.tail _ (.tail _ (.tail _ (.tail _ (.tail _ (.tail _ (.tail _ (.tail _ (.tail _ (.tail _ (.tail _ (.tail _ (.tail _ (.tail _ (.tail _ (.head _))))))))))))))))))))))))))))) (.cons ?u18_l rfl ?u18_b (.tail _ (.tail _ (.tail _ (.tail _ (.tail _ (.tail _ (.tail _ (.tail _ (.tail _ (.tail _ (.tail _ (.tail _ (.tail _ (.tail _ (.tail _ (.tail _ (.tail _ (.tail _ (.head _))))))))))))))))))) (.tail _ (.tail _ (.tail _ (.tail _ (.tail _ (.tail _ (.tail _ (.tail _ (.tail _ (.tail _ (.tail _ (.tail _ (.tail _ (.tail _ (.tail _ (.tail _ (.tail _ (.tail _ (.tail _ (.tail _ (.tail _ (.tail _ (.tail _ (.tail _ (.tail _ (.tail _ (.tail _ (.tail _ (.head _))))))))))))))))))))))))))))) (.cons ?u19_l rfl ?u19_b (.tail _ (.tail _ (.tail _ (.tail _ (.tail _ (.tail _ (.tail _ (.tail _ (.tail _ (.tail _ (.tail _ (.tail _ (.tail _ (.tail _ (.tail _ (.tail _ (.tail _ (.tail _ (.tail _ (.head _)))))))))))))))))))) (.tail _ (.tail _ (.tail _ (.tail _ (.tail _ (.tail _ (.tail _ (.tail _ (.tail _ (.tail _ (.tail _ (.tail _ (.tail _ (.tail _ (.tail _ (.tail _ (.tail _ (.tail _ (.tail _ (.tail _ (.tail _ (.tail _ (.tail _ (.tail _ (.tail _ (.tail _ (.tail _ (.tail _ (.head _))))))))))))))))))))))))))))) (.cons ?u20_l rfl ?u20_b (.tail _ (.tail _ (.tail _ (.tail _ (.tail _ (.tail _ (.tail _ (.tail _ (.tail _ (.tail _ (.tail _ (.tail _ (.tail _ (.tail _ (.tail _ (.tail _ (.tail _ (.tail _ (.tail _ (.tail _ (.head _))))))))))))))))))))) (.tail _ (.tail _ (.tail _ (.tail _ (.tail _ (.tail _ (.tail _ (.tail _ (.tail _ (.tail _ (.tail _ (.tail _ (.tail _ (.tail _ (.tail _ (.tail _ (.tail _ (.tail _ (.tail _ (.tail _ (.tail _ (.tail _ (.tail _ (.tail _ (.tail _ (.tail _ (.tail _ (.tail _ (.head _))))))))))))))))))))))))))))) (.cons ?u21_l rfl ?u21_b (.tail _ (.tail _ (.tail _ (.tail _ (.tail _ (.tail _ (.tail _ (.tail _ (.tail _ (.tail _ (.tail _ (.tail _ (.tail _ (.tail _ (.tail _ (.tail _ (.tail _ (.tail _ (.tail _ (.tail _ (.tail _ (.head _)))))))))))))))))))))) (.tail _ (.tail _ (.tail _ (.tail _ (.tail _ (.tail _ (.tail _ (.tail _ (.tail _ (.tail _ (.tail _ (.tail _ (.tail _ (.tail _ (.tail _ (.tail _ (.tail _ (.tail _ (.tail _ (.tail _ (.tail _ (.tail _ (.tail _ (.tail _ (.tail _ (.tail _ (.tail _ (.tail _ (.head _))))))))))))))))))))))))))))) (.cons ?u22_l rfl ?u22_b (.tail _ (.tail _ (.tail _ (.tail _ (.tail _ (.tail _ (.tail _ (.tail _ (.tail _ (.tail _ (.tail _ (.tail _ (.tail _ (.tail _ (.tail _ (.tail _ (.tail _ (.tail _ (.tail _ (.tail _ (.tail _ (.tail _ (.head _))))))))))))))))))))))) (.tail _ (.tail _ (.tail _ (.tail _ (.tail _ (.tail _ (.tail _ (.tail _ (.tail _ (.tail _ (.tail _ (.tail _ (.tail _ (.tail _ (.tail _ (.tail _ (.tail _ (.tail _ (.tail _ (.tail _ (.tail _ (.tail _ (.tail _ (.tail _ (.tail _ (.tail _ (.tail _ (.tail _ (.head _))))))))))))))))))))))))))))) (.cons ?u23_l rfl ?u23_b (.tail _ (.tail _ (.tail _ (.tail _ (.tail _ (.tail _ (.tail _ (.tail _ (.tail _ (.tail _ (.tail _ (.tail _ (.tail _ (.tail _ (.tail _ (.tail _ (.tail _ (.tail _ (.tail _ (.tail _ (.tail _ (.tail _ (.tail _ (.head _)))))))))))))))))))))))) (.tail _ (.tail _ (.tail _ (.tail _ (.tail _ (.tail _ (.tail _ (.tail _ (.tail _ (.tail _ (.tail _ (.tail _ (.tail _ (.tail _ (.tail _ (.tail _ (.tail _ (.tail _ (.tail _ (.tail _ (.tail _ (.tail _ (.tail _ (.tail _ (.tail _ (.tail _ (.tail _ (.tail _ (.head _))))))))))))))))))))))))))))) (.cons ?u24_l rfl ?u24_b (.tail _ (.tail _ (.tail _ (.tail _ (.tail _ (.tail _ (.tail _ (.tail _ (.tail _ (.tail _ (.tail _ (.tail _ (.tail _ (.tail _ (.tail _ (.tail _ (.tail _ (.tail _ (.tail _ (.tail _ (.tail _ (.tail _ (.tail _ (.tail _ (.head _))))))))))))))))))))))))) (.tail _ (.tail _ (.tail _ (.tail _ (.tail _ (.tail _ (.tail _ (.tail _ (.tail _ (.tail _ (.tail _ (.tail _ (.tail _ (.tail _ (.tail _ (.tail _ (.tail _ (.tail _ (.tail _ (.tail _ (.tail _ (.tail _ (.tail _ (.tail _ (.tail _ (.tail _ (.tail _ (.tail _ (.head _))))))))))))))))))))))))))))) (.cons ?u25_l rfl ?u25_b (.tail _ (.tail _ (.tail _ (.tail _ (.tail _ (.tail _ (.tail _ (.tail _ (.tail _ (.tail _ (.tail _ (.tail _ (.tail _ (.tail _ (.tail _ (.tail _ (.tail _ (.tail _ (.tail _ (.tail _ (.tail _ (.tail _ (.tail _ (.tail _ (.tail _ (.head _)))))))))))))))))))))))))) (.tail _ (.tail _ (.tail _ (.tail _ (.tail _ (.tail _ (.tail _ (.tail _ (.tail _ (.tail _ (.tail _ (.tail _ (.tail _ (.tail _ (.tail _ (.tail _ (.tail _ (.tail _ (.tail _ (.tail _ (.tail _ (.tail _ (.tail _ (.tail _ (.tail _ (.tail _ (.tail _ (.tail _ (.head _))))))))))))))))))))))))))))) (.cons ?u26_l rfl ?u26_b (.tail _ (.tail _ (.tail _ (.tail _ (.tail _ (.tail _ (.tail _ (.tail _ (.tail _ (.tail _ (.tail _ (.tail _ (.tail _ (.tail _ (.tail _ (.tail _ (.tail _ (.tail _ (.tail _ (.tail _ (.tail _ (.tail _ (.tail _ (.tail _ (.tail _ (.tail _ (.head _))))))))))))))))))))))))))) (.tail _ (.tail _ (.tail _ (.tail _ (.tail _ (.tail _ (.tail _ (.tail _ (.tail _ (.tail _ (.tail _ (.tail _ (.tail _ (.tail _ (.tail _ (.tail _ (.tail _ (.tail _ (.tail _ (.tail _ (.tail _ (.tail _ (.tail _ (.tail _ (.tail _ (.tail _ (.tail _ (.tail _ (.head _))))))))))))))))))))))))))))) .nil))))))))))))))))))))))))))) ?tnd⟩ base
  case e0 => first | k_is | rfl
  case l0 => first | k_is | rfl
  case c0 => first | k_is | rfl
  case k0 => first | k_is | rfl
  case e1 => first | k_is | rfl
  case l1 => first | k_is | rfl
  case c1 => first | k_is | rfl
  case k1 => first | k_is | rfl
  case e2 => first | k_is | rfl
  case l2 => first | k_is | rfl
  case c2 => first | k_is | rfl
  case k2 => first | k_is | rfl
  case e3 => first | k_is | rfl
  case l3 => first | k_is | rfl
  case c3 => first | k_is | rfl
  case k3 => first | k_is | rfl
  case e4 => first | k_is | rfl
  case l4 => first | k_is | rfl
  case c4 => first | k_is | rfl
  case k4 => first | k_is | rfl
  case e5 => first | k_is | rfl
  case l5 => first | k_is | rfl
  case c5 => first | k_is | rfl
  case k5 => first | k_is | rfl
  case e6 => first | k_is | rfl
  case l6 => first | k_is | rfl
  case c6 => first | k_is | rfl
  case k6 => first | k_is | rfl
  case b_len => first | k_is | rfl
  case b_abs => first | k_is | rfl
  case b_int => first | k_is | rfl
  case b_super => first | k_is | rfl
  case b_isinstance => first | k_is | rfl
  case b_min => first | k_is | rfl
  case b_max => first | k_is | rfl
  case b_range => first | k_is | rfl
  case b_repr => first | k_is | rfl
  case b_enumerate => first | k_is | rfl
  case b_LookupError => first | k_is | rfl
  case b_ValueError => first | k_is | rfl
  case xTwice_aC => first | k_is | rfl
  case xTwice_lC => first | k_is | rfl
  case xTwice_lP => first | k_is | rfl
  case xTwice_fP => first | k_is | rfl
  case xTwice_sa => first | k_is | rfl
  case xTwice_f0 => first | k_is | rfl
  case xTwice_fi => first | k_is | rfl
  case xTwice_tI => first | k_is | rfl
  case xTwice_lI => first | k_is | rfl
  case xTwice_cI => first | k_is | rfl
  case xTwice_lcd => first | k_is | rfl
  case xTwice_vf => rfl
  case xTwice_ff => decide +kernel
  case xTwice_lcc => first | k_is | rfl
  case xTwice_hP => exact ⟨_, [_], rfl, rfl⟩
  case xTwice_hB => exact ⟨_, _, _, _, _, _, _, _, [⟨_, _, _, _⟩], rfl, rfl, fun _ => ⟨_, rfl⟩⟩
  case xTwice_hS => rfl
  case xTwice_bnd => exact fun _ us hl => match us, hl with | [_], _ => rfl
  case xTwice_ty => first | k_is | rfl
  case xTwice_opq => first | k_is | rfl
  case xTwice_top => decide +kernel
  case xTwice_kC => first | k_is | rfl
  case xTwice_exC => first | k_is | rfl
  case xTwice_tyC => first | k_is | rfl
  case xTwice_hdC => first | k_is | rfl
  case xTwice_ga => first | k_is | rfl
  case xTwice_gg => first | k_is | rfl
  case xTwice_ha => first | k_is | rfl
  case xTwice_hn => first | k_is | rfl
  case xTwice_ht => first | k_is | rfl
  case xTwice_hm => first | k_is | rfl
  case xTwice_nd => decide
  case xNoInverse_aC => first | k_is | rfl
  case xNoInverse_lC => first | k_is | rfl
  case xNoInverse_lP => first | k_is | rfl
  case xNoInverse_fP => first | k_is | rfl
  case xNoInverse_sa => first | k_is | rfl
  case xNoInverse_f0 => first | k_is | rfl
  case xNoInverse_fi => first | k_is | rfl
  case xNoInverse_tI => first | k_is | rfl
  case xNoInverse_lI => first | k_is | rfl
  case xNoInverse_cI => first | k_is | rfl
  case xNoInverse_lcd => first | k_is | rfl
  case xNoInverse_vf => rfl
  case xNoInverse_ff => decide +kernel
  case xNoInverse_lcc => first | k_is | rfl
  case xNoInverse_hP => exact ⟨_, [_], rfl, rfl⟩
  case xNoInverse_hB => exact ⟨_, _, _, _, _, _, _, _, [⟨_, _, _, _⟩], rfl, rfl, fun _ => ⟨_, rfl⟩⟩
  case xNoInverse_hS => rfl
  case xNoInverse_bnd => exact fun _ us hl => match us, hl with | [_], _ => rfl
  case xNoInverse_ty => first | k_is | rfl
  case xNoInverse_opq => first | k_is | rfl
  case xNoInverse_top => decide +kernel
  case xNoInverse_kC => first | k_is | rfl
  case xNoInverse_exC => first | k_is | rfl
  case xNoInverse_tyC => first | k_is | rfl
  case xNoInverse_hdC => first | k_is | rfl
  case xNoInverse_ga => first | k_is | rfl
  case xNoInverse_gg => first | k_is | rfl
  case xNoInverse_ha => first | k_is | rfl
  case xNoInverse_hn => first | k_is | rfl
  case xNoInverse_ht => first | k_is | rfl
  case xNoInverse_hm => first | k_is | rfl
  case xNoInverse_nd => decide
  case xBadSlide_aC => first | k_is | rfl
  case xBadSlide_lC => first | k_is | rfl
  case xBadSlide_lP => first | k_is | rfl
  case xBadSlide_fP => first | k_is | rfl
  case xBadSlide_sa => first | k_is | rfl
  case xBadSlide_f0 => first | k_is | rfl
  case xBadSlide_fi => first | k_is | rfl
  case xBadSlide_tI => first | k_is | rfl
  case xBadSlide_lI => first | k_is | rfl
  case xBadSlide_cI => first | k_is | rfl
  case xBadSlide_lcd => first | k_is | rfl
  case xBadSlide_vf => rfl
  case xBadSlide_ff => decide +kernel
  case xBadSlide_lcc => first | k_is | rfl
  case xBadSlide_hP => exact ⟨_, [_], rfl, rfl⟩
  case xBadSlide_hB => exact ⟨_, _, _, _, _, _, _, _, [⟨_, _, _, _⟩], rfl, rfl, fun _ => ⟨_, rfl⟩⟩
  case xBadSlide_hS => rfl
  case xBadSlide_bnd => exact fun _ us hl => match us, hl with | [_], _ => rfl
  case xBadSlide_ty => first | k_is | rfl
  case xBadSlide_opq => first | k_is | rfl
  case xBadSlide_top => decide +kernel
  case xBadSlide_kC => first | k_is | rfl
  case xBadSlide_exC => first | k_is | rfl
  case xBadSlide_tyC => first | k_is | rfl
  case xBadSlide_hdC => first | k_is | rfl
  case xBadSlide_ga => first | k_is | rfl
  case xBadSlide_gg => first | k_is | rfl
  case xBadSlide_ha => first | k_is | rfl
  case xBadSlide_hn => first | k_is | rfl
  case xBadSlide_ht => first | k_is | rfl
  case xBadSlide_hm => first | k_is | rfl
  case xBadSlide_nd => decide
  case xBadPlace_aC => first | k_is | rfl
  case xBadPlace_lC => first | k_is | rfl
  case xBadPlace_lP => first | k_is | rfl
  case xBadPlace_fP => first | k_is | rfl
  case xBadPlace_sa => first | k_is | rfl
  case xBadPlace_f0 => first | k_is | rfl
  case xBadPlace_fi => first | k_is | rfl
  case xBadPlace_tI => first | k_is | rfl
  case xBadPlace_lI => first | k_is | rfl
  case xBadPlace_cI => first | k_is | rfl
  case xBadPlace_lcd => first | k_is | rfl
  case xBadPlace_vf => rfl
  case xBadPlace_ff => decide +kernel
  case xBadPlace_lcc => first | k_is | rfl
  case xBadPlace_hP => exact ⟨_, [_], rfl, rfl⟩
  case xBadPlace_hB => exact ⟨_, _, _, _, _, _, _, _, [⟨_, _, _, _⟩], rfl, rfl, fun _ => ⟨_, rfl⟩⟩
  case xBadPlace_hS => rfl
  case xBadPlace_bnd => exact fun _ us hl => match us, hl with | [_], _ => rfl
  case xBadPlace_ty => first | k_is | rfl
  case xBadPlace_opq => first | k_is | rfl
  case xBadPlace_top => decide +kernel
  case xBadPlace_kC => first | k_is | rfl
  case xBadPlace_exC => first | k_is | rfl
  case xBadPlace_tyC => first | k_is | rfl
  case xBadPlace_hdC => first | k_is | rfl
  case xBadPlace_ga => first | k_is | rfl
  case xBadPlace_gg => first | k_is | rfl
  case xBadPlace_ha => first | k_is | rfl
  case xBadPlace_hn => first | k_is | rfl
  case xBadPlace_ht => first | k_is | rfl
  case xBadPlace_hm => first | k_is | rfl
  case xBadPlace_nd => decide
  case xBadName_aC => first | k_is | rfl
  case xBadName_lC => first | k_is | rfl
  case xBadName_lP => first | k_is | rfl
  case xBadName_fP => first | k_is | rfl
  case xBadName_sa => first | k_is | rfl
  case xBadName_f0 => first | k_is | rfl
  case xBadName_fi => first | k_is | rfl
  case xBadName_tI => first | k_is | rfl
  case xBadName_lI => first | k_is | rfl
  case xBadName_cI => first | k_is | rfl
  case xBadName_lcd => first | k_is | rfl
  case xBadName_vf => rfl
  case xBadName_ff => decide +kernel
  case xBadName_lcc => first | k_is | rfl
  case xBadName_hP => exact ⟨_, [_], rfl, rfl⟩
  case xBadName_hB => exact ⟨_, _, _, _, _, _, _, _, [⟨_, _, _, _⟩], rfl, rfl, fun _ => ⟨_, rfl⟩⟩
  case xBadName_hS => rfl
  case xBadName_bnd => exact fun _ us hl => match us, hl with | [_], _ => rfl
  case xBadName_ty => first | k_is | rfl
  case xBadName_opq => first | k_is | rfl
  case xBadName_top => decide +kernel
  case xBadName_kC => first | k_is | rfl
  case xBadName_exC => first | k_is | rfl
  case xBadName_tyC => first | k_is | rfl
  case xBadName_hdC => first | k_is | rfl
  case xBadName_ga => first | k_is | rfl
  case xBadName_gg => first | k_is | rfl
  case xBadName_ha => first | k_is | rfl
  case xBadName_hn => first | k_is | rfl
  case xBadName_ht => first | k_is | rfl
  case xBadName_hm => first | k_is | rfl
  case xBadName_nd => decide
  case xNoHandler_aC => first | k_is | rfl
  case xNoHandler_lC => first | k_is | rfl
  case xNoHandler_lP => first | k_is | rfl
  case xNoHandler_fP => first | k_is | rfl
  case xNoHandler_sa => first | k_is | rfl
  case xNoHandler_f0 => first | k_is | rfl
  case xNoHandler_fi => first | k_is | rfl
  case xNoHandler_tI => first | k_is | rfl
  case xNoHandler_lI => first | k_is | rfl
  case xNoHandler_cI => first | k_is | rfl
  case xNoHandler_lcd => first | k_is | rfl
  case xNoHandler_vf => rfl
  case xNoHandler_ff => decide +kernel
  case xNoHandler_lcc => first | k_is | rfl
  case xNoHandler_hP => exact ⟨_, [_], rfl, rfl⟩
  case xNoHandler_hB => exact ⟨_, _, _, _, _, _, _, _, [⟨_, _, _, _⟩], rfl, rfl, fun _ => ⟨_, rfl⟩⟩
  case xNoHandler_hS => rfl
  case xNoHandler_bnd => exact fun _ us hl => match us, hl with | [_], _ => rfl
  case xNoHandler_ty => first | k_is | rfl
  case xNoHandler_opq => first | k_is | rfl
  case xNoHandler_top => decide +kernel
  case xNoHandler_kC => first | k_is | rfl
  case xNoHandler_exC => first | k_is | rfl
  case xNoHandler_tyC => first | k_is | rfl
  case xNoHandler_hdC => first | k_is | rfl
  case xNoHandler_ga => first | k_is | rfl
  case xNoHandler_gg => first | k_is | rfl
  case xNoHandler_ha => first | k_is | rfl
  case xNoHandler_hn => first | k_is | rfl
  case xNoHandler_ht => first | k_is | rfl
  case xNoHandler_hm => first | k_is | rfl
  case xNoHandler_nd => decide
  case xNoPlace_aC => first | k_is | rfl
  case xNoPlace_lC => first | k_is | rfl
  case xNoPlace_lP => first | k_is | rfl
  case xNoPlace_fP => first | k_is | rfl
  case xNoPlace_sa => first | k_is | rfl
  case xNoPlace_f0 => first | k_is | rfl
  case xNoPlace_f1 => first | k_is | rfl
  case xNoPlace_fi => first | k_is | rfl
  case xNoPlace_tI => first | k_is | rfl
  case xNoPlace_lI => first | k_is | rfl
  case xNoPlace_cI => first | k_is | rfl
  case xNoPlace_lcd => first | k_is | rfl
  case xNoPlace_vf => rfl
  case xNoPlace_ff => decide +kernel
  case xNoPlace_lcc => first | k_is | rfl
  case xNoPlace_hP => exact ⟨_, [_, _], rfl, rfl⟩
  case xNoPlace_hB => exact ⟨_, _, _, _, _, _, _, _, [⟨_, _, _, _⟩, ⟨_, _, _, _⟩], rfl, rfl, fun _ => ⟨_, rfl⟩⟩
  case xNoPlace_hS => rfl
  case xNoPlace_bnd => exact fun _ us hl => match us, hl with | [_, _], _ => rfl
  case xNoPlace_ty => first | k_is | rfl
  case xNoPlace_opq => first | k_is | rfl
  case xNoPlace_top => decide +kernel
  case xNoPlace_kC => first | k_is | rfl
  case xNoPlace_exC => first | k_is | rfl
  case xNoPlace_tyC => first | k_is | rfl
  case xNoPlace_hdC => first | k_is | rfl
  case xNoPlace_ga => first | k_is | rfl
  case xNoPlace_gg => first | k_is | rfl
  case xNoPlace_ha => first | k_is | rfl
  case xNoPlace_hn => first | k_is | rfl
  case xNoPlace_ht => first | k_is | rfl
  case xNoPlace_hm => first | k_is | rfl
  case xNoPlace_nd => decide
  case xNoRow_aC => first | k_is | rfl
  case xNoRow_lC => first | k_is | rfl
  case xNoRow_lP => first | k_is | rfl
  case xNoRow_fP => first | k_is | rfl
  case xNoRow_sa => first | k_is | rfl
  case xNoRow_f0 => first | k_is | rfl
  case xNoRow_fi => first | k_is | rfl
  case xNoRow_tI => first | k_is | rfl
  case xNoRow_lI => first | k_is | rfl
  case xNoRow_cI => first | k_is | rfl
  case xNoRow_lcd => first | k_is | rfl
  case xNoRow_vf => rfl
  case xNoRow_ff => decide +kernel
  case xNoRow_lcc => first | k_is | rfl
  case xNoRow_hP => exact ⟨_, [_], rfl, rfl⟩
  case xNoRow_hB => exact ⟨_, _, _, _, _, _, _, _, [⟨_, _, _, _⟩], rfl, rfl, fun _ => ⟨_, rfl⟩⟩
  case xNoRow_hS => rfl
  case xNoRow_bnd => exact fun _ us hl => match us, hl with | [_], _ => rfl
  case xNoRow_ty => first | k_is | rfl
  case xNoRow_opq => first | k_is | rfl
  case xNoRow_top => decide +kernel
  case xNoRow_kC => first | k_is | rfl
  case xNoRow_exC => first | k_is | rfl
  case xNoRow_tyC => first | k_is | rfl
  case xNoRow_hdC => first | k_is | rfl
  case xNoRow_ga => first | k_is | rfl
  case xNoRow_gg => first | k_is | rfl
  case xNoRow_ha => first | k_is | rfl
  case xNoRow_hn => first | k_is | rfl
  case xNoRow_ht => first | k_is | rfl
  case xNoRow_hm => first | k_is | rfl
  case xNoRow_nd => decide
  case xBadWorld_aC => first | k_is | rfl
  case xBadWorld_lC => first | k_is | rfl
  case xBadWorld_lP => first | k_is | rfl
  case xBadWorld_fP => first | k_is | rfl
  case xBadWorld_sa => first | k_is | rfl
  case xBadWorld_f0 => first | k_is | rfl
  case xBadWorld_fi => first | k_is | rfl
  case xBadWorld_tI => first | k_is | rfl
  case xBadWorld_lI => first | k_is | rfl
  case xBadWorld_cI => first | k_is | rfl
  case xBadWorld_lcd => first | k_is | rfl
  case xBadWorld_vf => rfl
  case xBadWorld_ff => decide +kernel
  case xBadWorld_lcc => first | k_is | rfl
  case xBadWorld_hP => exact ⟨_, [_], rfl, rfl⟩
  case xBadWorld_hB => exact ⟨_, _, _, _, _, _, _, _, [⟨_, _, _, _⟩], rfl, rfl, fun _ => ⟨_, rfl⟩⟩
  case xBadWorld_hS => rfl
  case xBadWorld_bnd => exact fun _ us hl => match us, hl with | [_], _ => rfl
  case xBadWorld_ty => first | k_is | rfl
  case xBadWorld_opq => first | k_is | rfl
  case xBadWorld_top => decide +kernel
  case xBadWorld_kC => first | k_is | rfl
  case xBadWorld_exC => first | k_is | rfl
  case xBadWorld_tyC => first | k_is | rfl
  case xBadWorld_hdC => first | k_is | rfl
  case xBadWorld_ga => first | k_is | rfl
  case xBadWorld_gg => first | k_is | rfl
  case xBadWorld_ha => first | k_is | rfl
  case xBadWorld_hn => first | k_is | rfl
  case xBadWorld_ht => first | k_is | rfl
  case xBadWorld_hm => first | k_is | rfl
  case xBadWorld_nd => decide
  case xBadText_aC => first | k_is | rfl
  case xBadText_lC => first | k_is | rfl
  case xBadText_lP => first | k_is | rfl
  case xBadText_fP => first | k_is | rfl
  case xBadText_sa => first | k_is | rfl
  case xBadText_f0 => first | k_is | rfl
  case xBadText_fi => first | k_is | rfl
  case xBadText_tI => first | k_is | rfl
  case xBadText_lI => first | k_is | rfl
  case xBadText_cI => first | k_is | rfl
  case xBadText_lcd => first | k_is | rfl
  case xBadText_vf => rfl
  case xBadText_ff => decide +kernel
  case xBadText_lcc => first | k_is | rfl
  case xBadText_hP => exact ⟨_, [_], rfl, rfl⟩
  case xBadText_hB => exact ⟨_, _, _, _, _, _, _, _, [⟨_, _, _, _⟩], rfl, rfl, fun _ => ⟨_, rfl⟩⟩
  case xBadText_hS => rfl
  case xBadText_bnd => exact fun _ us hl => match us, hl with | [_], _ => rfl
  case xBadText_ty => first | k_is | rfl
  case xBadText_opq => first | k_is | rfl
  case xBadText_top => decide +kernel
  case xBadText_kC => first | k_is | rfl
  case xBadText_exC => first | k_is | rfl
  case xBadText_tyC => first | k_is | rfl
  case xBadText_hdC => first | k_is | rfl
  case xBadText_ga => first | k_is | rfl
  case xBadText_gg => first | k_is | rfl
  case xBadText_ha => first | k_is | rfl
  case xBadText_hn => first | k_is | rfl
  case xBadText_ht => first | k_is | rfl
  case xBadText_hm => first | k_is | rfl
  case xBadText_nd => decide
  case xBadStep_aC => first | k_is | rfl
  case xBadStep_lC => first | k_is | rfl
  case xBadStep_lP => first | k_is | rfl
  case xBadStep_fP => first | k_is | rfl
  case xBadStep_sa => first | k_is | rfl
  case xBadStep_f0 => first | k_is | rfl
  case xBadStep_fi => first | k_is | rfl
  case xBadStep_tI => first | k_is | rfl
  case xBadStep_lI => first | k_is | rfl
  case xBadStep_cI => first | k_is | rfl
  case xBadStep_lcd => first | k_is | rfl
  case xBadStep_vf => rfl
  case xBadStep_ff => decide +kernel
  case xBadStep_lcc => first | k_is | rfl
  case xBadStep_hP => exact ⟨_, [_], rfl, rfl⟩
  case xBadStep_hB => exact ⟨_, _, _, _, _, _, _, _, [⟨_, _, _, _⟩], rfl, rfl, fun _ => ⟨_, rfl⟩⟩
  case xBadStep_hS => rfl
  case xBadStep_bnd => exact fun _ us hl => match us, hl with | [_], _ => rfl
  case xBadStep_ty => first | k_is | rfl
  case xBadStep_opq => first | k_is | rfl
  case xBadStep_top => decide +kernel
  case xBadStep_kC => first | k_is | rfl
  case xBadStep_exC => first | k_is | rfl
  case xBadStep_tyC => first | k_is | rfl
  case xBadStep_hdC => first | k_is | rfl
  case xBadStep_ga => first | k_is | rfl
  case xBadStep_gg => first | k_is | rfl
  case xBadStep_ha => first | k_is | rfl
  case xBadStep_hn => first | k_is | rfl
  case xBadStep_ht => first | k_is | rfl
  case xBadStep_hm => first | k_is | rfl
  case xBadStep_nd => decide
  case xBadLine_aC => first | k_is | rfl
  case xBadLine_lC => first | k_is | rfl
  case xBadLine_lP => first | k_is | rfl
  case xBadLine_fP => first | k_is | rfl
  case xBadLine_sa => first | k_is | rfl
  case xBadLine_f0 => first | k_is | rfl
  case xBadLine_fi => first | k_is | rfl
  case xBadLine_tI => first | k_is | rfl
  case xBadLine_lI => first | k_is | rfl
  case xBadLine_cI => first | k_is | rfl
  case xBadLine_lcd => first | k_is | rfl
  case xBadLine_vf => rfl
  case xBadLine_ff => decide +kernel
  case xBadLine_lcc => first | k_is | rfl
  case xBadLine_hP => exact ⟨_, [_], rfl, rfl⟩
  case xBadLine_hB => exact ⟨_, _, _, _, _, _, _, _, [⟨_, _, _, _⟩], rfl, rfl, fun _ => ⟨_, rfl⟩⟩
  case xBadLine_hS => rfl
  case xBadLine_bnd => exact fun _ us hl => match us, hl with | [_], _ => rfl
  case xBadLine_ty => first | k_is | rfl
  case xBadLine_opq => first | k_is | rfl
  case xBadLine_top => decide +kernel
  case xBadLine_kC => first | k_is | rfl
  case xBadLine_exC => first | k_is | rfl
  case xBadLine_tyC => first | k_is | rfl
  case xBadLine_hdC => first | k_is | rfl
  case xBadLine_ga => first | k_is | rfl
  case xBadLine_gg => first | k_is | rfl
  case xBadLine_ha => first | k_is | rfl
  case xBadLine_hn => first | k_is | rfl
  case xBadLine_ht => first | k_is | rfl
  case xBadLine_hm => first | k_is | rfl
  case xBadLine_nd => decide
  case xBadVisit_aC => first | k_is | rfl
  case xBadVisit_lC => first | k_is | rfl
  case xBadVisit_lP => first | k_is | rfl
  case xBadVisit_fP => first | k_is | rfl
  case xBadVisit_sa => first | k_is | rfl
  case xBadVisit_f0 => first | k_is | rfl
  case xBadVisit_fi => first | k_is | rfl
  case xBadVisit_tI => first | k_is | rfl
  case xBadVisit_lI => first | k_is | rfl
  case xBadVisit_cI => first | k_is | rfl
  case xBadVisit_lcd => first | k_is | rfl
  case xBadVisit_vf => rfl
  case xBadVisit_ff => decide +kernel
  case xBadVisit_lcc => first | k_is | rfl
  case xBadVisit_hP => exact ⟨_, [_], rfl, rfl⟩
  case xBadVisit_hB => exact ⟨_, _, _, _, _, _, _, _, [⟨_, _, _, _⟩], rfl, rfl, fun _ => ⟨_, rfl⟩⟩
  case xBadVisit_hS => rfl
  case xBadVisit_bnd => exact fun _ us hl => match us, hl with | [_], _ => rfl
  case xBadVisit_ty => first | k_is | rfl
  case xBadVisit_opq => first | k_is | rfl
  case xBadVisit_top => decide +kernel
  case xBadVisit_kC => first | k_is | rfl
  case xBadVisit_exC => first | k_is | rfl
  case xBadVisit_tyC => first | k_is | rfl
  case xBadVisit_hdC => first | k_is | rfl
  case xBadVisit_ga => first | k_is | rfl
  case xBadVisit_gg => first | k_is | rfl
  case xBadVisit_ha => first | k_is | rfl
  case xBadVisit_hn => first | k_is | rfl
  case xBadVisit_ht => first | k_is | rfl
  case xBadVisit_hm => first | k_is | rfl
  case xBadVisit_nd => decide
  case xBadCall_aC => first | k_is | rfl
  case xBadCall_lC => first | k_is | rfl
  case xBadCall_lP => first | k_is | rfl
  case xBadCall_fP => first | k_is | rfl
  case xBadCall_sa => first | k_is | rfl
  case xBadCall_f0 => first | k_is | rfl
  case xBadCall_fi => first | k_is | rfl
  case xBadCall_tI => first | k_is | rfl
  case xBadCall_lI => first | k_is | rfl
  case xBadCall_cI => first | k_is | rfl
  case xBadCall_lcd => first | k_is | rfl
  case xBadCall_vf => rfl
  case xBadCall_ff => decide +kernel
  case xBadCall_lcc => first | k_is | rfl
  case xBadCall_hP => exact ⟨_, [_], rfl, rfl⟩
  case xBadCall_hB => exact ⟨_, _, _, _, _, _, _, _, [⟨_, _, _, _⟩], rfl, rfl, fun _ => ⟨_, rfl⟩⟩
  case xBadCall_hS => rfl
  case xBadCall_bnd => exact fun _ us hl => match us, hl with | [_], _ => rfl
  case xBadCall_ty => first | k_is | rfl
  case xBadCall_opq => first | k_is | rfl
  case xBadCall_top => decide +kernel
  case xBadCall_kC => first | k_is | rfl
  case xBadCall_exC => first | k_is | rfl
  case xBadCall_tyC => first | k_is | rfl
  case xBadCall_hdC => first | k_is | rfl
  case xBadCall_ga => first | k_is | rfl
  case xBadCall_gg => first | k_is | rfl
  case xBadCall_ha => first | k_is | rfl
  case xBadCall_hn => first | k_is | rfl
  case xBadCall_ht => first | k_is | rfl
  case xBadCall_hm => first | k_is | rfl
  case xBadCall_nd => decide
  case xBadOperation_aC => first | k_is | rfl
  case xBadOperation_lC => first | k_is | rfl
  case xBadOperation_lP => first | k_is | rfl
  case xBadOperation_fP => first | k_is | rfl
  case xBadOperation_sa => first | k_is | rfl
  case xBadOperation_f0 => first | k_is | rfl
  case xBadOperation_fi => first | k_is | rfl
  case xBadOperation_tI => first | k_is | rfl
  case xBadOperation_lI => first | k_is | rfl
  case xBadOperation_cI => first | k_is | rfl
  case xBadOperation_lcd => first | k_is | rfl
  case xBadOperation_vf => rfl
  case xBadOperation_ff => decide +kernel
  case xBadOperation_lcc => first | k_is | rfl
  case xBadOperation_hP => exact ⟨_, [_], rfl, rfl⟩
  case xBadOperation_hB => exact ⟨_, _, _, _, _, _, _, _, [⟨_, _, _, _⟩], rfl, rfl, fun _ => ⟨_, rfl⟩⟩
  case xBadOperation_hS => rfl
  case xBadOperation_bnd => exact fun _ us hl => match us, hl with | [_], _ => rfl
  case xBadOperation_ty => first | k_is | rfl
  case xBadOperation_opq => first | k_is | rfl
  case xBadOperation_top => decide +kernel
  case xBadOperation_kC => first | k_is | rfl
  case xBadOperation_exC => first | k_is | rfl
  case xBadOperation_tyC => first | k_is | rfl
  case xBadOperation_hdC => first | k_is | rfl
  case xBadOperation_ga => first | k_is | rfl
  case xBadOperation_gg => first | k_is | rfl
  case xBadOperation_ha => first | k_is | rfl
  case xBadOperation_hn => first | k_is | rfl
  case xBadOperation_ht => first | k_is | rfl
  case xBadOperation_hm => first | k_is | rfl
  case xBadOperation_nd => decide
  case xBadPair_aC => first | k_is | rfl
  case xBadPair_lC => first | k_is | rfl
  case xBadPair_lP => first | k_is | rfl
  case xBadPair_fP => first | k_is | rfl
  case xBadPair_sa => first | k_is | rfl
  case xBadPair_f0 => first | k_is | rfl
  case xBadPair_f1 => first | k_is | rfl
  case xBadPair_fi => first | k_is | rfl
  case xBadPair_tI => first | k_is | rfl
  case xBadPair_lI => first | k_is | rfl
  case xBadPair_cI => first | k_is | rfl
  case xBadPair_lcd => first | k_is | rfl
  case xBadPair_vf => rfl
  case xBadPair_ff => decide +kernel
  case xBadPair_lcc => first | k_is | rfl
  case xBadPair_hP => exact ⟨_, [_, _], rfl, rfl⟩
  case xBadPair_hB => exact ⟨_, _, _, _, _, _, _, _, [⟨_, _, _, _⟩, ⟨_, _, _, _⟩], rfl, rfl, fun _ => ⟨_, rfl⟩⟩
  case xBadPair_hS => rfl
  case xBadPair_bnd => exact fun _ us hl => match us, hl with | [_, _], _ => rfl
  case xBadPair_ty => first | k_is | rfl
  case xBadPair_opq => first | k_is | rfl
  case xBadPair_top => decide +kernel
  case xBadPair_kC => first | k_is | rfl
  case xBadPair_exC => first | k_is | rfl
  case xBadPair_tyC => first | k_is | rfl
  case xBadPair_hdC => first | k_is | rfl
  case xBadPair_ga => first | k_is | rfl
  case xBadPair_gg => first | k_is | rfl
  case xBadPair_ha => first | k_is | rfl
  case xBadPair_hn => first | k_is | rfl
  case xBadPair_ht => first | k_is | rfl
  case xBadPair_hm => first | k_is | rfl
  case xBadPair_nd => decide
  case xBadOrder_aC => first | k_is | rfl
  case xBadOrder_lC => first | k_is | rfl
  case xBadOrder_lP => first | k_is | rfl
  case xBadOrder_fP => first | k_is | rfl
  case xBadOrder_sa => first | k_is | rfl
  case xBadOrder_f0 => first | k_is | rfl
  case xBadOrder_fi => first | k_is | rfl
  case xBadOrder_tI => first | k_is | rfl
  case xBadOrder_lI => first | k_is | rfl
  case xBadOrder_cI => first | k_is | rfl
  case xBadOrder_lcd => first | k_is | rfl
  case xBadOrder_vf => rfl
  case xBadOrder_ff => decide +kernel
  case xBadOrder_lcc => first | k_is | rfl
  case xBadOrder_hP => exact ⟨_, [_], rfl, rfl⟩
  case xBadOrder_hB => exact ⟨_, _, _, _, _, _, _, _, [⟨_, _, _, _⟩], rfl, rfl, fun _ => ⟨_, rfl⟩⟩
  case xBadOrder_hS => rfl
  case xBadOrder_bnd => exact fun _ us hl => match us, hl with | [_], _ => rfl
  case xBadOrder_ty => first | k_is | rfl
  case xBadOrder_opq => first | k_is | rfl
  case xBadOrder_top => decide +kernel
  case xBadOrder_kC => first | k_is | rfl
  case xBadOrder_exC => first | k_is | rfl
  case xBadOrder_tyC => first | k_is | rfl
  case xBadOrder_hdC => first | k_is | rfl
  case xBadOrder_ga => first | k_is | rfl
  case xBadOrder_gg => first | k_is | rfl
  case xBadOrder_ha => first | k_is | rfl
  case xBadOrder_hn => first | k_is | rfl
  case xBadOrder_ht => first | k_is | rfl
  case xBadOrder_hm => first | k_is | rfl
  case xBadOrder_nd => decide
  case xOtherOperation_aC => first | k_is | rfl
  case xOtherOperation_lC => first | k_is | rfl
  case xOtherOperation_lP => first | k_is | rfl
  case xOtherOperation_fP => first | k_is | rfl
  case xOtherOperation_sa => first | k_is | rfl
  case xOtherOperation_f0 => first | k_is | rfl
  case xOtherOperation_fi => first | k_is | rfl
  case xOtherOperation_tI => first | k_is | rfl
  case xOtherOperation_lI => first | k_is | rfl
  case xOtherOperation_cI => first | k_is | rfl
  case xOtherOperation_lcd => first | k_is | rfl
  case xOtherOperation_vf => rfl
  case xOtherOperation_ff => decide +kernel
  case xOtherOperation_lcc => first | k_is | rfl
  case xOtherOperation_hP => exact ⟨_, [_], rfl, rfl⟩
  case xOtherOperation_hB => exact ⟨_, _, _, _, _, _, _, _, [⟨_, _, _, _⟩], rfl, rfl, fun _ => ⟨_, rfl⟩⟩
  case xOtherOperation_hS => rfl
  case xOtherOperation_bnd => exact fun _ us hl => match us, hl with | [_], _ => rfl
  case xOtherOperation_ty => first | k_is | rfl
  case xOtherOperation_opq => first | k_is | rfl
  case xOtherOperation_top => decide +kernel
  case xOtherOperation_kC => first | k_is | rfl
  case xOtherOperation_exC => first | k_is | rfl
  case xOtherOperation_tyC => first | k_is | rfl
  case xOtherOperation_hdC => first | k_is | rfl
  case xOtherOperation_ga => first | k_is | rfl
  case xOtherOperation_gg => first | k_is | rfl
  case xOtherOperation_ha => first | k_is | rfl
  case xOtherOperation_hn => first | k_is | rfl
  case xOtherOperation_ht => first | k_is | rfl
  case xOtherOperation_hm => first | k_is | rfl
  case xOtherOperation_nd => decide
  case xBadKind_aC => first | k_is | rfl
  case xBadKind_lC => first | k_is | rfl
  case xBadKind_lP => first | k_is | rfl
  case xBadKind_fP => first | k_is | rfl
  case xBadKind_sa => first | k_is | rfl
  case xBadKind_f0 => first | k_is | rfl
  case xBadKind_fi => first | k_is | rfl
  case xBadKind_tI => first | k_is | rfl
  case xBadKind_lI => first | k_is | rfl
  case xBadKind_cI => first | k_is | rfl
  case xBadKind_lcd => first | k_is | rfl
  case xBadKind_vf => rfl
  case xBadKind_ff => decide +kernel
  case xBadKind_lcc => first | k_is | rfl
  case xBadKind_hP => exact ⟨_, [_], rfl, rfl⟩
  case xBadKind_hB => exact ⟨_, _, _, _, _, _, _, _, [⟨_, _, _, _⟩], rfl, rfl, fun _ => ⟨_, rfl⟩⟩
  case xBadKind_hS => rfl
  case xBadKind_bnd => exact fun _ us hl => match us, hl with | [_], _ => rfl
  case xBadKind_ty => first | k_is | rfl
  case xBadKind_opq => first | k_is | rfl
  case xBadKind_top => decide +kernel
  case xBadKind_kC => first | k_is | rfl
  case xBadKind_exC => first | k_is | rfl
  case xBadKind_tyC => first | k_is | rfl
  case xBadKind_hdC => first | k_is | rfl
  case xBadKind_ga => first | k_is | rfl
  case xBadKind_gg => first | k_is | rfl
  case xBadKind_ha => first | k_is | rfl
  case xBadKind_hn => first | k_is | rfl
  case xBadKind_ht => first | k_is | rfl
  case xBadKind_hm => first | k_is | rfl
  case xBadKind_nd => decide
  case xBadBound_aC => first | k_is | rfl
  case xBadBound_lC => first | k_is | rfl
  case xBadBound_lP => first | k_is | rfl
  case xBadBound_fP => first | k_is | rfl
  case xBadBound_sa => first | k_is | rfl
  case xBadBound_f0 => first | k_is | rfl
  case xBadBound_fi => first | k_is | rfl
  case xBadBound_tI => first | k_is | rfl
  case xBadBound_lI => first | k_is | rfl
  case xBadBound_cI => first | k_is | rfl
  case xBadBound_lcd => first | k_is | rfl
  case xBadBound_vf => rfl
  case xBadBound_ff => decide +kernel
  case xBadBound_lcc => first | k_is | rfl
  case xBadBound_hP => exact ⟨_, [_], rfl, rfl⟩
  case xBadBound_hB => exact ⟨_, _, _, _, _, _, _, _, [⟨_, _, _, _⟩], rfl, rfl, fun _ => ⟨_, rfl⟩⟩
  case xBadBound_hS => rfl
  case xBadBound_bnd => exact fun _ us hl => match us, hl with | [_], _ => rfl
  case xBadBound_ty => first | k_is | rfl
  case xBadBound_opq => first | k_is | rfl
  case xBadBound_top => decide +kernel
  case xBadBound_kC => first | k_is | rfl
  case xBadBound_exC => first | k_is | rfl
  case xBadBound_tyC => first | k_is | rfl
  case xBadBound_hdC => first | k_is | rfl
  case xBadBound_ga => first | k_is | rfl
  case xBadBound_gg => first | k_is | rfl
  case xBadBound_ha => first | k_is | rfl
  case xBadBound_hn => first | k_is | rfl
  case xBadBound_ht => first | k_is | rfl
  case xBadBound_hm => first | k_is | rfl
  case xBadBound_nd => decide
  case xBadSpot_aC => first | k_is | rfl
  case xBadSpot_lC => first | k_is | rfl
  case xBadSpot_lP => first | k_is | rfl
  case xBadSpot_fP => first | k_is | rfl
  case xBadSpot_sa => first | k_is | rfl
  case xBadSpot_f0 => first | k_is | rfl
  case xBadSpot_fi => first | k_is | rfl
  case xBadSpot_tI => first | k_is | rfl
  case xBadSpot_lI => first | k_is | rfl
  case xBadSpot_cI => first | k_is | rfl
  case xBadSpot_lcd => first | k_is | rfl
  case xBadSpot_vf => rfl
  case xBadSpot_ff => decide +kernel
  case xBadSpot_lcc => first | k_is | rfl
  case xBadSpot_hP => exact ⟨_, [_], rfl, rfl⟩
  case xBadSpot_hB => exact ⟨_, _, _, _, _, _, _, _, [⟨_, _, _, _⟩], rfl, rfl, fun _ => ⟨_, rfl⟩⟩
  case xBadSpot_hS => rfl
  case xBadSpot_bnd => exact fun _ us hl => match us, hl with | [_], _ => rfl
  case xBadSpot_ty => first | k_is | rfl
  case xBadSpot_opq => first | k_is | rfl
  case xBadSpot_top => decide +kernel
  case xBadSpot_kC => first | k_is | rfl
  case xBadSpot_exC => first | k_is | rfl
  case xBadSpot_tyC => first | k_is | rfl
  case xBadSpot_hdC => first | k_is | rfl
  case xBadSpot_ga => first | k_is | rfl
  case xBadSpot_gg => first | k_is | rfl
  case xBadSpot_ha => first | k_is | rfl
  case xBadSpot_hn => first | k_is | rfl
  case xBadSpot_ht => first | k_is | rfl
  case xBadSpot_hm => first | k_is | rfl
  case xBadSpot_nd => decide
  case xBadNumber_aC => first | k_is | rfl
  case xBadNumber_lC => first | k_is | rfl
  case xBadNumber_lP => first | k_is | rfl
  case xBadNumber_fP => first | k_is | rfl
  case xBadNumber_sa => first | k_is | rfl
  case xBadNumber_f0 => first | k_is | rfl
  case xBadNumber_fi => first | k_is | rfl
  case xBadNumber_tI => first | k_is | rfl
  case xBadNumber_lI => first | k_is | rfl
  case xBadNumber_cI => first | k_is | rfl
  case xBadNumber_lcd => first | k_is | rfl
  case xBadNumber_vf => rfl
  case xBadNumber_ff => decide +kernel
  case xBadNumber_lcc => first | k_is | rfl
  case xBadNumber_hP => exact ⟨_, [_], rfl, rfl⟩
  case xBadNumber_hB => exact ⟨_, _, _, _, _, _, _, _, [⟨_, _, _, _⟩], rfl, rfl, fun _ => ⟨_, rfl⟩⟩
  case xBadNumber_hS => rfl
  case xBadNumber_bnd => exact fun _ us hl => match us, hl with | [_], _ => rfl
  case xBadNumber_ty => first | k_is | rfl
  case xBadNumber_opq => first | k_is | rfl
  case xBadNumber_top => decide +kernel
  case xBadNumber_kC => first | k_is | rfl
  case xBadNumber_exC => first | k_is | rfl
  case xBadNumber_tyC => first | k_is | rfl
  case xBadNumber_hdC => first | k_is | rfl
  case xBadNumber_ga => first | k_is | rfl
  case xBadNumber_gg => first | k_is | rfl
  case xBadNumber_ha => first | k_is | rfl
  case xBadNumber_hn => first | k_is | rfl
  case xBadNumber_ht => first | k_is | rfl
  case xBadNumber_hm => first | k_is | rfl
  case xBadNumber_nd => decide
  case xCallFailed_aC => first | k_is | rfl
  case xCallFailed_lC => first | k_is | rfl
  case xCallFailed_lP => first | k_is | rfl
  case xCallFailed_fP => first | k_is | rfl
  case xCallFailed_sa => first | k_is | rfl
  case xCallFailed_f0 => first | k_is | rfl
  case xCallFailed_f1 => first | k_is | rfl
  case xCallFailed_fi => first | k_is | rfl
  case xCallFailed_tI => first | k_is | rfl
  case xCallFailed_lI => first | k_is | rfl
  case xCallFailed_cI => first | k_is | rfl
  case xCallFailed_lcd => first | k_is | rfl
  case xCallFailed_vf => rfl
  case xCallFailed_ff => decide +kernel
  case xCallFailed_lcc => first | k_is | rfl
  case xCallFailed_hP => exact ⟨_, [_, _], rfl, rfl⟩
  case xCallFailed_hB => exact ⟨_, _, _, _, _, _, _, _, [⟨_, _, _, _⟩, ⟨_, _, _, _⟩], rfl, rfl, fun _ => ⟨_, rfl⟩⟩
  case xCallFailed_hS => rfl
  case xCallFailed_bnd => exact fun _ us hl => match us, hl with | [_, _], _ => rfl
  case xCallFailed_ty => first | k_is | rfl
  case xCallFailed_opq => first | k_is | rfl
  case xCallFailed_top => decide +kernel
  case xCallFailed_kC => first | k_is | rfl
  case xCallFailed_exC => first | k_is | rfl
  case xCallFailed_tyC => first | k_is | rfl
  case xCallFailed_hdC => first | k_is | rfl
  case xCallFailed_ga => first | k_is | rfl
  case xCallFailed_gg => first | k_is | rfl
  case xCallFailed_ha => first | k_is | rfl
  case xCallFailed_hn => first | k_is | rfl
  case xCallFailed_ht => first | k_is | rfl
  case xCallFailed_hm => first | k_is | rfl
  case xCallFailed_nd => decide
  case xClash_aC => first | k_is | rfl
  case xClash_lC => first | k_is | rfl
  case xClash_lP => first | k_is | rfl
  case xClash_fP => first | k_is | rfl
  case xClash_sa => first | k_is | rfl
  case xClash_f0 => first | k_is | rfl
  case xClash_f1 => first | k_is | rfl
  case xClash_f2 => first | k_is | rfl
  case xClash_fi => first | k_is | rfl
  case xClash_tI => first | k_is | rfl
  case xClash_lI => first | k_is | rfl
  case xClash_cI => first | k_is | rfl
  case xClash_lcd => first | k_is | rfl
  case xClash_vf => rfl
  case xClash_ff => decide +kernel
  case xClash_lcc => first | k_is | rfl
  case xClash_hP => exact ⟨_, [_, _, _], rfl, rfl⟩
  case xClash_hB => exact ⟨_, _, _, _, _, _, _, _, [⟨_, _, _, _⟩, ⟨_, _, _, _⟩, ⟨_, _, _, _⟩], rfl, rfl, fun _ => ⟨_, rfl⟩⟩
  case xClash_hS => rfl
  case xClash_bnd => exact fun _ us hl => match us, hl with | [_, _, _], _ => rfl
  case xClash_ty => first | k_is | rfl
  case xClash_opq => first | k_is | rfl
  case xClash_top => decide +kernel
  case xClash_kC => first | k_is | rfl
  case xClash_exC => first | k_is | rfl
  case xClash_tyC => first | k_is | rfl
  case xClash_hdC => first | k_is | rfl
  case xClash_ga => first | k_is | rfl
  case xClash_gg => first | k_is | rfl
  case xClash_ha => first | k_is | rfl
  case xClash_hn => first | k_is | rfl
  case xClash_ht => first | k_is | rfl
  case xClash_hm => first | k_is | rfl
  case xClash_nd => decide
  case xTooMany_aC => first | k_is | rfl
  case xTooMany_lC => first | k_is | rfl
  case xTooMany_lP => first | k_is | rfl
  case xTooMany_fP => first | k_is | rfl
  case xTooMany_sa => first | k_is | rfl
  case xTooMany_f0 => first | k_is | rfl
  case xTooMany_fi => first | k_is | rfl
  case xTooMany_tI => first | k_is | rfl
  case xTooMany_lI => first | k_is | rfl
  case xTooMany_cI => first | k_is | rfl
  case xTooMany_lcd => first | k_is | rfl
  case xTooMany_vf => rfl
  case xTooMany_ff => decide +kernel
  case xTooMany_lcc => first | k_is | rfl
  case xTooMany_hP => exact ⟨_, [_], rfl, rfl⟩
  case xTooMany_hB => exact ⟨_, _, _, _, _, _, _, _, [⟨_, _, _, _⟩], rfl, rfl, fun _ => ⟨_, rfl⟩⟩
  case xTooMany_hS => rfl
  case xTooMany_bnd => exact fun _ us hl => match us, hl with | [_], _ => rfl
  case xTooMany_ty => first | k_is | rfl
  case xTooMany_opq => first | k_is | rfl
  case xTooMany_top => decide +kernel
  case xTooMany_kC => first | k_is | rfl
  case xTooMany_exC => first | k_is | rfl
  case xTooMany_tyC => first | k_is | rfl
  case xTooMany_hdC => first | k_is | rfl
  case xTooMany_ga => first | k_is | rfl
  case xTooMany_gg => first | k_is | rfl
  case xTooMany_ha => first | k_is | rfl
  case xTooMany_hn => first | k_is | rfl
  case xTooMany_ht => first | k_is | rfl
  case xTooMany_hm => first | k_is | rfl
  case xTooMany_nd => decide
  case xBadMend_aC => first | k_is | rfl
  case xBadMend_lC => first | k_is | rfl
  case xBadMend_lP => first | k_is | rfl
  case xBadMend_fP => first | k_is | rfl
  case xBadMend_sa => first | k_is | rfl
  case xBadMend_f0 => first | k_is | rfl
  case xBadMend_fi => first | k_is | rfl
  case xBadMend_tI => first | k_is | rfl
  case xBadMend_lI => first | k_is | rfl
  case xBadMend_cI => first | k_is | rfl
  case xBadMend_lcd => first | k_is | rfl
  case xBadMend_vf => rfl
  case xBadMend_ff => decide +kernel
  case xBadMend_lcc => first | k_is | rfl
  case xBadMend_hP => exact ⟨_, [_], rfl, rfl⟩
  case xBadMend_hB => exact ⟨_, _, _, _, _, _, _, _, [⟨_, _, _, _⟩], rfl, rfl, fun _ => ⟨_, rfl⟩⟩
  case xBadMend_hS => rfl
  case xBadMend_bnd => exact fun _ us hl => match us, hl with | [_], _ => rfl
  case xBadMend_ty => first | k_is | rfl
  case xBadMend_opq => first | k_is | rfl
  case xBadMend_top => decide +kernel
  case xBadMend_kC => first | k_is | rfl
  case xBadMend_exC => first | k_is | rfl
  case xBadMend_tyC => first | k_is | rfl
  case xBadMend_hdC => first | k_is | rfl
  case xBadMend_ga => first | k_is | rfl
  case xBadMend_gg => first | k_is | rfl
  case xBadMend_ha => first | k_is | rfl
  case xBadMend_hn => first | k_is | rfl
  case xBadMend_ht => first | k_is | rfl
  case xBadMend_hm => first | k_is | rfl
  case xBadMend_nd => decide
  case xBadRule_aC => first | k_is | rfl
  case xBadRule_lC => first | k_is | rfl
  case xBadRule_lP => first | k_is | rfl
  case xBadRule_fP => first | k_is | rfl
  case xBadRule_sa => first | k_is | rfl
  case xBadRule_f0 => first | k_is | rfl
  case xBadRule_fi => first | k_is | rfl
  case xBadRule_tI => first | k_is | rfl
  case xBadRule_lI => first | k_is | rfl
  case xBadRule_cI => first | k_is | rfl
  case xBadRule_lcd => first | k_is | rfl
  case xBadRule_vf => rfl
  case xBadRule_ff => decide +kernel
  case xBadRule_lcc => first | k_is | rfl
  case xBadRule_hP => exact ⟨_, [_], rfl, rfl⟩
  case xBadRule_hB => exact ⟨_, _, _, _, _, _, _, _, [⟨_, _, _, _⟩], rfl, rfl, fun _ => ⟨_, rfl⟩⟩
  case xBadRule_hS => rfl
  case xBadRule_bnd => exact fun _ us hl => match us, hl with | [_], _ => rfl
  case xBadRule_ty => first | k_is | rfl
  case xBadRule_opq => first | k_is | rfl
  case xBadRule_top => decide +kernel
  case xBadRule_kC => first | k_is | rfl
  case xBadRule_exC => first | k_is | rfl
  case xBadRule_tyC => first | k_is | rfl
  case xBadRule_hdC => first | k_is | rfl
  case xBadRule_ga => first | k_is | rfl
  case xBadRule_gg => first | k_is | rfl
  case xBadRule_ha => first | k_is | rfl
  case xBadRule_hn => first | k_is | rfl
  case xBadRule_ht => first | k_is | rfl
  case xBadRule_hm => first | k_is | rfl
  case xBadRule_nd => decide
  case c_BadName => first | k_is | rfl
  case c_NoHandler => first | k_is | rfl
  case c_NoPlace => first | k_is | rfl
  case c_NoRow => first | k_is | rfl
  case c_Twice => first | k_is | rfl
  case c_NoInverse => first | k_is | rfl
  case c_BadSlide => first | k_is | rfl
  case c_BadPlace => first | k_is | rfl
  case c_BadVisit => first | k_is | rfl
  case c_BadCall => first | k_is | rfl
  case c_BadOperation => first | k_is | rfl
  case c_BadWorld => first | k_is | rfl
  case c_BadText => first | k_is | rfl
  case c_BadStep => first | k_is | rfl
  case c_BadLine => first | k_is | rfl
  case c_BadBound => first | k_is | rfl
  case c_BadSpot => first | k_is | rfl
  case c_BadNumber => first | k_is | rfl
  case c_BadOrder => first | k_is | rfl
  case c_OtherOperation => first | k_is | rfl
  case c_BadKind => first | k_is | rfl
  case c_TooMany => first | k_is | rfl
  case c_BadMend => first | k_is | rfl
  case c_BadRule => first | k_is | rfl
  case c_BadPair => first | k_is | rfl
  case c_CallFailed => first | k_is | rfl
  case c_Clash => first | k_is | rfl
  case c_MissingError => first | k_is | rfl
  case c_PlaceError => first | k_is | rfl
  case t0_g => first | k_is | rfl
  case t0_i => first | k_is | rfl
  case t0_t => first | k_is | rfl
  case t0_e => first | k_is | rfl
  case t1_g => first | k_is | rfl
  case t1_i => first | k_is | rfl
  case t1_t => first | k_is | rfl
  case t1_e => first | k_is | rfl
  case t2_g => first | k_is | rfl
  case t2_i => first | k_is | rfl
  case t2_t => first | k_is | rfl
  case t2_e => first | k_is | rfl
  case t3_g => first | k_is | rfl
  case t3_i => first | k_is | rfl
  case t3_t => first | k_is | rfl
  case t3_e => first | k_is | rfl
  case t4_g => first | k_is | rfl
  case t4_i => first | k_is | rfl
  case t4_t => first | k_is | rfl
  case t4_e => first | k_is | rfl
  case t5_g => first | k_is | rfl
  case t5_i => first | k_is | rfl
  case t5_t => first | k_is | rfl
  case t5_e => first | k_is | rfl
  case t6_g => first | k_is | rfl
  case t6_i => first | k_is | rfl
  case t6_t => first | k_is | rfl
  case t6_e => first | k_is | rfl
  case t7_g => first | k_is | rfl
  case t7_i => first | k_is | rfl
  case t7_t => first | k_is | rfl
  case t7_e => first | k_is | rfl
  case t8_g => first | k_is | rfl
  case t8_i => first | k_is | rfl
  case t8_t => first | k_is | rfl
  case t8_e => first | k_is | rfl
  case t9_g => first | k_is | rfl
  case t9_i => first | k_is | rfl
  case t9_t => first | k_is | rfl
  case t9_e => first | k_is | rfl
  case t10_g => first | k_is | rfl
  case t10_i => first | k_is | rfl
  case t10_t => first | k_is | rfl
  case t10_e => first | k_is | rfl
  case t11_g => first | k_is | rfl
  case t11_i => first | k_is | rfl
  case t11_t => first | k_is | rfl
  case t11_e => first | k_is | rfl
  case t12_g => first | k_is | rfl
  case t12_i => first | k_is | rfl
  case t12_t => first | k_is | rfl
  case t12_e => first | k_is | rfl
  case t13_g => first | k_is | rfl
  case t13_i => first | k_is | rfl
  case t13_t => first | k_is | rfl
  case t13_e => first | k_is | rfl
  case t14_g => first | k_is | rfl
  case t14_i => first | k_is | rfl
  case t14_t => first | k_is | rfl
  case t14_e => first | k_is | rfl
  case t15_g => first | k_is | rfl
  case t15_i => first | k_is | rfl
  case t15_t => first | k_is | rfl
  case t15_e => first | k_is | rfl
  case t16_g => first | k_is | rfl
  case t16_i => first | k_is | rfl
  case t16_t => first | k_is | rfl
  case t16_e => first | k_is | rfl
  case t17_g => first | k_is | rfl
  case t17_i => first | k_is | rfl
  case t17_t => first | k_is | rfl
  case t17_e => first | k_is | rfl
  case t18_g => first | k_is | rfl
  case t18_i => first | k_is | rfl
  case t18_t => first | k_is | rfl
  case t18_e => first | k_is | rfl
  case t19_g => first | k_is | rfl
  case t19_i => first | k_is | rfl
  case t19_t => first | k_is | rfl
  case t19_e => first | k_is | rfl
  case t20_g => first | k_is | rfl
  case t20_i => first | k_is | rfl
  case t20_t => first | k_is | rfl
  case t20_e => first | k_is | rfl
  case t21_g => first | k_is | rfl
  case t21_i => first | k_is | rfl
  case t21_t => first | k_is | rfl
  case t21_e => first | k_is | rfl
  case t22_g => first | k_is | rfl
  case t22_i => first | k_is | rfl
  case t22_t => first | k_is | rfl
  case t22_e => first | k_is | rfl
  case t23_g => first | k_is | rfl
  case t23_i => first | k_is | rfl
  case t23_t => first | k_is | rfl
  case t23_e => first | k_is | rfl
  case t24_g => first | k_is | rfl
  case t24_i => first | k_is | rfl
  case t24_t => first | k_is | rfl
  case t24_e => first | k_is | rfl
  case t25_g => first | k_is | rfl
  case t25_i => first | k_is | rfl
  case t25_t => first | k_is | rfl
  case t25_e => first | k_is | rfl
  case t26_g => first | k_is | rfl
  case t26_i => first | k_is | rfl
  case t26_t => first | k_is | rfl
  case t26_e => first | k_is | rfl
  case t27_g => first | k_is | rfl
  case t27_i => first | k_is | rfl
  case t27_t => first | k_is | rfl
  case t27_e => first | k_is | rfl
  case t28_g => first | k_is | rfl
  case t28_i => first | k_is | rfl
  case t28_t => first | k_is | rfl
  case t28_e => first | k_is | rfl
  case u0_l => first | k_is | rfl
  case u0_b => rfl
  case u1_l => first | k_is | rfl
  case u1_b => rfl
  case u2_l => first | k_is | rfl
  case u2_b => rfl
  case u3_l => first | k_is | rfl
  case u3_b => rfl
  case u4_l => first | k_is | rfl
  case u4_b => rfl
  case u5_l => first | k_is | rfl
  case u5_b => rfl
  case u6_l => first | k_is | rfl
  case u6_b => rfl
  case u7_l => first | k_is | rfl
  case u7_b => rfl
  case u8_l => first | k_is | rfl
  case u8_b => rfl
  case u9_l => first | k_is | rfl
  case u9_b => rfl
  case u10_l => first | k_is | rfl
  case u10_b => rfl
  case u11_l => first | k_is | rfl
  case u11_b => rfl
  case u12_l => first | k_is | rfl
  case u12_b => rfl
  case u13_l => first | k_is | rfl
  case u13_b => rfl
  case u14_l => first | k_is | rfl
  case u14_b => rfl
  case u15_l => first | k_is | rfl
  case u15_b => rfl
  case u16_l => first | k_is | rfl
  case u16_b => rfl
  case u17_l => first | k_is | rfl
  case u17_b => rfl
  case u18_l => first | k_is | rfl
  case u18_b => rfl
  case u19_l => first | k_is | rfl
  case u19_b => rfl
  case u20_l => first | k_is | rfl
  case u20_b => rfl
  case u21_l => first | k_is | rfl
  case u21_b => rfl
  case u22_l => first | k_is | rfl
  case u22_b => rfl
  case u23_l => first | k_is | rfl
  case u23_b => rfl
  case u24_l => first | k_is | rfl
  case u24_b => rfl
  case u25_l => first | k_is | rfl
  case u25_b => rfl
  case u26_l => first | k_is | rfl
  case u26_b => rfl
  case tnd => decide +kernel
