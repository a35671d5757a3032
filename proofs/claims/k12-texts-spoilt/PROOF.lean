import PyProof.Rows.All
import Wide.All
import OpenK.AllK
import Wide.FinOn
import HandS.ForMost
import HandS.ForExc
import HandS.HeadWalk
import HandS.TupAny
import HandS.IsInst
import HandS.Wide
import HandS.Deep
import HandS.TupMul
import HandS.ExcCtx
import HandS.ExcOwn
import KE.GoesNew
import KE.GoesMore
import HandS.Defaults
import HandS.HeadHook1
import HandS.HotCalls
import HandS.ExcIs
import HandS.Lambda
import PyProof.Rows.TupIter
import KE.GoesEnum
import KE.GoesComp
import PyProof.RulesMatch
import HandS.EndTab
import HandS.Strs
import HandS.Conv
import HandS.HeadHook4
import HandS.HeadEnd
import HandS.Head0
import HandS.Head1
import HandS.Head2
import HandS.SetFor
import HandS.CallSlots
import HandS.ExcInit
import HandS.ExcField
import HandS.ClsMeth
import HandS.Text
import KE.KStateDown
import PySem.Challenge.RW_turnedshares_k12_texts_spoilt
set_option Elab.async false
set_option linter.all false
set_option maxRecDepth 100000
set_option maxHeartbeats 4000000
/-! The plain layer: what the slots of a def hold as plain data, with no heap in sight; lists that are changed in place belong to one slot. -/
namespace TS
open PySem PySem.Spec PyProof.Rows L2
/-! ### data -/
inductive D where
  | non | bl (b : Bool) | int (i : Int) | str (x : Str) | tup (l : List D) | lst (l : List D) | scr (ns : List Int) | glo (n : Str) | ty (n : String)
  deriving Inhabited
/-- what is fixed through a law: the written part, the module's names, what stays true of the tables of code objects -/
structure Zx where
  K : PySem.W.Frag
  mg : Str → Option Value
  J : Hp → Prop
/-- an object that may change in place -/
def Chg : HO → Prop
  | .lst _ => True
  | .dK _ => True
  | .dT _ => True
  | .set _ _ => True
  | .ins _ _ _ => True
  | _ => False
def Tbl : HO → Prop
  | .tbl _ => True
  | _ => False
/-- J hangs on what does not change in place -/
class GoodJ (Z : Zx) : Prop where
  j : ∀ H H' : Hp, (∀ a o, H a = some o → ¬ Chg o → H' a = some o) → Z.J H → Z.J H'
mutual
def Rp (Z : Zx) (H : Hp) : D → V → Prop
  | .non, v => v = .non
  | .bl b, v => v = .bl b
  | .int i, v => v = .int i
  | .str x, v => v = .str x
  | .tup ds, v => ∃ a vs, v = .ref a ∧ SqT Z.K H a vs ∧ RpL Z H ds vs
  | .lst ds, v => ∃ a vs, v = .ref a ∧ H a = some (.lst vs) ∧ RpL Z H ds vs
  | .scr ns, v => ∃ a, v = .ref a ∧ SqL Z.K H a (ns.map V.int)
  | .glo n, v => ∃ a, v = .ref a ∧ Z.mg n = some (.ref a)
  | .ty n, v => v = .ty n
def RpL (Z : Zx) (H : Hp) : List D → List V → Prop
  | [], [] => True
  | d :: ds, v :: vs => Rp Z H d v ∧ RpL Z H ds vs
  | [], _ :: _ => False
  | _ :: _, [] => False
end
/-- B tells at least what A tells, but for tables -/
def Sub (A B : Hp) : Prop := ∀ a o, A a = some o → ¬ Tbl o → B a = some o
theorem Sub.refl (A : Hp) : Sub A A := fun _ _ h _ => h
theorem Sub.trans {A B C : Hp} (x : Sub A B) (y : Sub B C) : Sub A C := fun a o h n => y a o (x a o h n) n
section
variable {Z : Zx} {A B : Hp}
theorem Sub.rd {a : Addr} {u : HO} (s : Sub A B) (n : ¬ Tbl u) (h : Rd A a u) : Rd B a u := by
  rcases h with h | ⟨o, h⟩
  · exact .inl (s _ _ h n)
  · exact .inr ⟨o, s _ _ h (fun z => z)⟩
theorem Sub.sqT {a : Addr} {xs : List V} (s : Sub A B) (h : SqT Z.K A a xs) : SqT Z.K B a xs := h.imp (s.rd fun z => z) fun z => z
theorem Sub.sqL {a : Addr} {xs : List V} (s : Sub A B) (h : SqL Z.K A a xs) : SqL Z.K B a xs := h.imp (s.rd fun z => z) fun z => z
mutual
theorem Rp.sub (s : Sub A B) : ∀ (d : D) (v : V), Rp Z A d v → Rp Z B d v
  | .non, _, h => h
  | .bl _, _, h => h
  | .int _, _, h => h
  | .str _, _, h => h
  | .tup ds, v, h => by
    obtain ⟨a, vs, e, q, r⟩ := (show ∃ a vs, v = .ref a ∧ SqT Z.K A a vs ∧ RpL Z A ds vs from h)
    exact ⟨a, vs, e, s.sqT q, RpL.sub s ds vs r⟩
  | .lst ds, v, h => by
    obtain ⟨a, vs, e, q, r⟩ := (show ∃ a vs, v = .ref a ∧ A a = some (.lst vs) ∧ RpL Z A ds vs from h)
    exact ⟨a, vs, e, s _ _ q (fun z => z), RpL.sub s ds vs r⟩
  | .scr _, v, h => by
    obtain ⟨a, e, q⟩ := h
    exact ⟨a, e, s.sqL q⟩
  | .glo _, _, h => h
  | .ty _, _, h => h
theorem RpL.sub (s : Sub A B) : ∀ (ds : List D) (vs : List V), RpL Z A ds vs → RpL Z B ds vs
  | [], [], _ => trivial
  | d :: ds, v :: vs, h => ⟨Rp.sub s d v h.1, RpL.sub s ds vs h.2⟩
  | [], _ :: _, h => h
  | _ :: _, [], h => h
end
theorem RpL.len : ∀ {ds : List D} {vs : List V}, RpL Z A ds vs → ds.length = vs.length
  | [], [], _ => rfl
  | _ :: _, _ :: _, h => by simp [RpL.len h.2]
  | [], _ :: _, h => h.elim
  | _ :: _, [], h => h.elim
theorem RpL.get : ∀ {ds : List D} {vs : List V} {i : Nat} {d : D}, RpL Z A ds vs → ds[i]? = some d → ∃ v, vs[i]? = some v ∧ Rp Z A d v
  | [], [], i, d, _, e => by simp at e
  | d' :: ds, v :: vs, 0, d, h, e => by
    simp at e
    subst e
    exact ⟨v, rfl, h.1⟩
  | d' :: ds, v :: vs, i + 1, d, h, e => by
    obtain ⟨w, q, r⟩ := RpL.get (i := i) (d := d) h.2 (by simpa using e)
    exact ⟨w, by simpa using q, r⟩
  | [], _ :: _, _, _, h, _ => h.elim
  | _ :: _, [], _, _, h, _ => h.elim
theorem RpL.getV : ∀ {ds : List D} {vs : List V} {i : Nat} {v : V}, RpL Z A ds vs → vs[i]? = some v → ∃ d, ds[i]? = some d ∧ Rp Z A d v
  | [], [], i, d, _, e => by simp at e
  | d' :: ds, v' :: vs, 0, v, h, e => by
    simp at e
    subst e
    exact ⟨d', rfl, h.1⟩
  | d' :: ds, v' :: vs, i + 1, v, h, e => by
    obtain ⟨w, q, r⟩ := RpL.getV (i := i) (v := v) h.2 (by simpa using e)
    exact ⟨w, by simpa using q, r⟩
  | [], _ :: _, _, _, h, _ => h.elim
  | _ :: _, [], _, _, h, _ => h.elim
theorem RpL.append : ∀ {ds es : List D} {vs ws : List V}, RpL Z A ds vs → RpL Z A es ws → RpL Z A (ds ++ es) (vs ++ ws)
  | [], _, [], _, _, k => k
  | _ :: _, _, _ :: _, _, h, k => ⟨h.1, RpL.append h.2 k⟩
  | [], _, _ :: _, _, h, _ => h.elim
  | _ :: _, _, [], _, h, _ => h.elim
theorem RpL.take : ∀ {ds : List D} {vs : List V} (n : Nat), RpL Z A ds vs → RpL Z A (ds.take n) (vs.take n)
  | [], [], n, _ => by simp [RpL]
  | _ :: _, _ :: _, 0, _ => trivial
  | _ :: _, _ :: _, n + 1, h => ⟨h.1, RpL.take n h.2⟩
  | [], _ :: _, _, h => h.elim
  | _ :: _, [], _, h => h.elim
theorem RpL.drop : ∀ {ds : List D} {vs : List V} (n : Nat), RpL Z A ds vs → RpL Z A (ds.drop n) (vs.drop n)
  | [], [], n, _ => by simp [RpL]
  | _ :: _, _ :: _, 0, h => h
  | _ :: _, _ :: _, n + 1, h => RpL.drop n h.2
  | [], _ :: _, _, h => h.elim
  | _ :: _, [], _, h => h.elim
theorem RpL.set : ∀ {ds : List D} {vs : List V} {d : D} {v : V} (i : Nat), RpL Z A ds vs → Rp Z A d v → RpL Z A (ds.set i d) (vs.set i v)
  | [], [], _, _, i, _, _ => by simp [RpL]
  | _ :: _, _ :: _, _, _, 0, h, k => ⟨k, h.2⟩
  | _ :: _, _ :: _, _, _, i + 1, h, k => ⟨h.1, RpL.set i h.2 k⟩
  | [], _ :: _, _, _, _, h, _ => h.elim
  | _ :: _, [], _, _, _, h, _ => h.elim
end
/-! ### slots -/
/-- nothing known; a value; a list of one's own; a list of a caller's that may be changed -/
inductive Sl where
  | no | val (d : D) | own (ds : List D) | brw (ds : List D)
  deriving Inhabited
abbrev Rho := List Sl
def Sl.held : Sl → Option (List D)
  | .own ds => some ds
  | .brw ds => some ds
  | _ => none
def Sl.put (ds : List D) : Sl → Sl
  | .own _ => .own ds
  | .brw _ => .brw ds
  | s => s
def slAt (ρ : Rho) (i : Nat) : Sl := ρ.getD i .no
def heldAt (ρ : Rho) (i : Nat) : Option (List D) := (slAt ρ i).held
def putAt (ρ : Rho) (i : Nat) (ds : List D) : Rho := ρ.set i ((slAt ρ i).put ds)
/-- the address of a list that a slot holds -/
def Ow (ρ : Rho) (σ : L2.St) (a : Addr) : Prop := ∃ i ds, heldAt ρ i = some ds ∧ σ[i]? = some (some (.ref a))
def Hid (ρ : Rho) (σ : L2.St) (G : Addr → Prop) (a : Addr) : Prop := G a ∨ Ow ρ σ a
open Classical in
noncomputable def vis (H : Hp) (S : Addr → Prop) : Hp := fun a => if S a then none else H a
theorem vis_some {H : Hp} {S : Addr → Prop} {a : Addr} {o : HO} : vis H S a = some o ↔ ¬ S a ∧ H a = some o := by
  unfold vis
  by_cases h : S a
  · rw [if_pos h]
    refine ⟨fun z => ?_, fun z => absurd h z.1⟩
    cases z
  · rw [if_neg h]
    exact ⟨fun z => ⟨h, z⟩, fun z => z.2⟩
theorem vis_sub {H H' : Hp} {S S' : Addr → Prop} (h : ∀ a o, H a = some o → ¬ S a → ¬ Tbl o → ¬ S' a ∧ H' a = some o) : Sub (vis H S) (vis H' S') := fun a o e n => by
  obtain ⟨e1, e2⟩ := vis_some.mp e
  exact vis_some.mpr (h a o e2 e1 n)
structure Ok (Z : Zx) (σ : L2.St) (ρ : Rho) (H : Hp) (G : Addr → Prop) : Prop where
  len : ρ.length = σ.length
  val : ∀ (i : Nat) (d : D), slAt ρ i = .val d → ∃ v, σ[i]? = some (some v) ∧ Rp Z (vis H (Hid ρ σ G)) d v
  own : ∀ (i : Nat) (ds : List D), heldAt ρ i = some ds → ∃ a vs, σ[i]? = some (some (.ref a)) ∧ H a = some (.lst vs) ∧ RpL Z (vis H (Hid ρ σ G)) ds vs ∧ ¬ G a
  inj : ∀ (i j : Nat) (ds es : List D) (a : Addr), heldAt ρ i = some ds → heldAt ρ j = some es → σ[i]? = some (some (.ref a)) → σ[j]? = some (some (.ref a)) → i = j
  j : Z.J H
  gt : ∀ a, G a → ∃ o, H a = some o ∧ ¬ Tbl o
/-- from one state to a later one: what no slot holds stays -/
structure Stp (Z : Zx) (σ : L2.St) (ρ : Rho) (H : Hp) (σ' : L2.St) (ρ' : Rho) (H' : Hp) : Prop where
  keep : ∀ a o, H a = some o → ¬ Tbl o → ¬ Ow ρ σ a → H' a = some o
  out : ∀ a o, H a = some o → ¬ Tbl o → ¬ Ow ρ σ a → ¬ Ow ρ' σ' a
  brw : ∀ (i : Nat) (ds : List D), slAt ρ i = .brw ds → σ'[i]? = σ[i]? ∧ ∃ ds', slAt ρ' i = .brw ds'
section
variable {Z : Zx} {σ σ1 σ2 : L2.St} {ρ ρ1 ρ2 : Rho} {H H1 H2 : Hp} {G : Addr → Prop}
theorem Stp.refl : Stp Z σ ρ H σ ρ H := ⟨fun _ _ h _ _ => h, fun _ _ _ _ h => h, fun i ds h => ⟨rfl, ds, h⟩⟩
theorem Stp.trans (a : Stp Z σ ρ H σ1 ρ1 H1) (b : Stp Z σ1 ρ1 H1 σ2 ρ2 H2) : Stp Z σ ρ H σ2 ρ2 H2 where
  keep := fun c o h m n => b.keep c o (a.keep c o h m n) m (a.out c o h m n)
  out := fun c o h m n => b.out c o (a.keep c o h m n) m (a.out c o h m n)
  brw := fun i ds h => by
    obtain ⟨e1, ds1, h1⟩ := a.brw i ds h
    obtain ⟨e2, ds2, h2⟩ := b.brw i ds1 h1
    exact ⟨e2.trans e1, ds2, h2⟩
/-- what was seen of a value stays true -/
theorem Stp.vis (s : Stp Z σ ρ H σ1 ρ1 H1) : Sub (TS.vis H (Hid ρ σ G)) (TS.vis H1 (Hid ρ1 σ1 G)) := vis_sub fun a o h n m => by
  have n1 : ¬ Ow ρ σ a := fun z => n (.inr z)
  exact ⟨fun z => z.elim (fun z => n (.inl z)) (s.out a o h m n1), s.keep a o h m n1⟩
end
end TS
set_option Elab.async false
set_option linter.all false
set_option maxRecDepth 100000
set_option maxHeartbeats 4000000
namespace TS
open PySem PySem.Spec PyProof.Rows L2
/-! ### small facts about slots -/
section
variable {Z : Zx} {σ σ' : L2.St} {ρ ρ' : Rho} {H H' : Hp} {G : Addr → Prop}
theorem slAt_set (ρ : Rho) (i j : Nat) (s : Sl) : slAt (ρ.set i s) j = if i = j ∧ j < ρ.length then s else slAt ρ j := by
  unfold slAt
  rw [List.getD_eq_getElem?_getD, List.getD_eq_getElem?_getD, List.getElem?_set]
  by_cases h : i = j
  · subst h
    by_cases k : i < ρ.length
    · simp [k]
    · simp [k]
  · simp [h]
theorem slAt_lt {i : Nat} (h : slAt ρ i ≠ .no) : i < ρ.length := by
  unfold slAt at h
  by_cases k : i < ρ.length
  · exact k
  · rw [List.getD_eq_getElem?_getD, List.getElem?_eq_none (by omega)] at h
    exact absurd rfl h
theorem heldAt_lt {i : Nat} {ds : List D} (h : heldAt ρ i = some ds) : i < ρ.length := slAt_lt fun z => by
  unfold heldAt at h
  rw [z] at h
  cases h
theorem heldAt_put {i : Nat} {ds es : List D} (h : heldAt ρ i = some ds) (j : Nat) : heldAt (putAt ρ i es) j = if i = j then some es else heldAt ρ j := by
  have hl := heldAt_lt h
  unfold heldAt putAt at *
  rw [slAt_set]
  by_cases k : i = j
  · subst k
    rw [if_pos ⟨rfl, hl⟩, if_pos rfl]
    cases e : slAt ρ i with
    | no => rw [e] at h; cases h
    | val d => rw [e] at h; cases h
    | own xs => rfl
    | brw xs => rfl
  · rw [if_neg (fun z => k z.1), if_neg k]
/-- a list of a slot is put anew, the heap with it -/
theorem Ow_put {i : Nat} {ds es : List D} (h : heldAt ρ i = some ds) (a : Addr) : Ow (putAt ρ i es) σ a ↔ Ow ρ σ a := by
  constructor
  · rintro ⟨j, xs, e1, e2⟩
    rw [heldAt_put h] at e1
    by_cases k : i = j
    · subst k
      exact ⟨i, ds, h, e2⟩
    · rw [if_neg k] at e1
      exact ⟨j, xs, e1, e2⟩
  · rintro ⟨j, xs, e1, e2⟩
    by_cases k : i = j
    · subst k
      exact ⟨i, es, by rw [heldAt_put h, if_pos rfl], e2⟩
    · exact ⟨j, xs, by rw [heldAt_put h, if_neg k]; exact e1, e2⟩
end
/-! ### exceptions -/
structure Exc where
  cls : Str
  pay : Option (Str × D)
def Pay (Z : Zx) (H : Hp) (x : Exc) (c : Value) (dd : Option Addr) : Prop := ∃ C, Z.mg x.cls = some (.ref C) ∧ c = .ref C ∧
  match x.pay with
  | none => dd = none
  | some p => ∃ d fs v, dd = some d ∧ H d = some (.xd fs) ∧ fs.lookup p.1 = some v ∧ Rp Z H p.2 v
abbrev EQ := Exc → Rho → Prop
/-- what is wished of an exception -/
def XP (Z : Zx) (W : WX) (σ : L2.St) (ρ : Rho) (H : Hp) (G : Addr → Prop) (E : EQ) : Prop :=
  ∀ x c dd σ' ρ' H', Ok Z σ' ρ' H' G → Stp Z σ ρ H σ' ρ' H' → Pay Z H' x c dd → E x ρ' → W c dd σ' H'
theorem XP.step {Z : Zx} {W : WX} {σ σ1 : L2.St} {ρ ρ1 : Rho} {H H1 : Hp} {G : Addr → Prop} {E : EQ} (x : XP Z W σ ρ H G E) (s : Stp Z σ ρ H σ1 ρ1 H1) : XP Z W σ1 ρ1 H1 G E :=
  fun x' c dd σ' ρ' H' o s' p e => x x' c dd σ' ρ' H' o (s.trans s') p e
/-- the same of an expression: the slots' values stand -/
def XPE (Z : Zx) (W : WX) (σ : L2.St) (ρ : Rho) (H : Hp) (G : Addr → Prop) (E : EQ) : Prop :=
  ∀ x c dd ρ' H', Ok Z σ ρ' H' G → Stp Z σ ρ H σ ρ' H' → Pay Z H' x c dd → E x ρ' → W c dd σ H'
theorem XPE.step {Z : Zx} {W : WX} {σ : L2.St} {ρ ρ1 : Rho} {H H1 : Hp} {G : Addr → Prop} {E : EQ} (x : XPE Z W σ ρ H G E) (s : Stp Z σ ρ H σ ρ1 H1) : XPE Z W σ ρ1 H1 G E :=
  fun x' c dd ρ' H' o s' p e => x x' c dd ρ' H' o (s.trans s') p e
theorem XP.e {Z : Zx} {W : WX} {σ : L2.St} {ρ : Rho} {H : Hp} {G : Addr → Prop} {E : EQ} (x : XP Z W σ ρ H G E) : XPE Z W σ ρ H G E := fun x' c dd ρ' H' o s p e => x x' c dd σ ρ' H' o s p e
/-! ### readings in plain data -/
abbrev DE := Rho → (D → Rho → Prop) → EQ → Prop
abbrev DT := Rho → (Bool → Rho → Prop) → EQ → Prop
abbrev DA := Rho → (List D → Rho → Prop) → EQ → Prop
structure DEnds where
  nx : Rho → Prop
  rt : D → Rho → Prop
  bk : Rho → Prop := fun _ => False
  ct : Rho → Prop := fun _ => False
abbrev DS := DEnds → EQ → Rho → Prop
def upE (Z : Zx) (W : WX) (t : DE) : TE := fun σ H Q => ∃ ρ G Qd E, Ok Z σ ρ H G ∧ t ρ Qd E ∧
  (∀ d v ρ' H', Ok Z σ ρ' H' G → Stp Z σ ρ H σ ρ' H' → Rp Z (vis H' (Hid ρ' σ G)) d v → Qd d ρ' → Q v H') ∧ XPE Z W σ ρ H G E
def upT (Z : Zx) (W : WX) (t : DT) : TT := fun σ H Q => ∃ ρ G Qd E, Ok Z σ ρ H G ∧ t ρ Qd E ∧
  (∀ b ρ' H', Ok Z σ ρ' H' G → Stp Z σ ρ H σ ρ' H' → Qd b ρ' → Q b H') ∧ XPE Z W σ ρ H G E
def upA (Z : Zx) (W : WX) (t : DA) : TA := fun σ H Q => ∃ ρ G Qd E, Ok Z σ ρ H G ∧ t ρ Qd E ∧
  (∀ ds vs ρ' H', Ok Z σ ρ' H' G → Stp Z σ ρ H σ ρ' H' → RpL Z (vis H' (Hid ρ' σ G)) ds vs → Qd ds ρ' → Q vs H') ∧ XPE Z W σ ρ H G E
def upS (Z : Zx) (W : WX) (t : DS) : TS := fun B σ H => ∃ ρ G DD E, Ok Z σ ρ H G ∧ t DD E ρ ∧
  (∀ σ' ρ' H', Ok Z σ' ρ' H' G → Stp Z σ ρ H σ' ρ' H' → (DD.nx ρ' → B.nx σ' H') ∧ (DD.bk ρ' → B.bk σ' H') ∧ (DD.ct ρ' → B.ct σ' H') ∧
    ∀ d v, Rp Z (vis H' (Hid ρ' σ' G)) d v → DD.rt d ρ' → B.rt v H') ∧ XP Z W σ ρ H G E
/-! ### weakening -/
section
variable {X : Cx}
theorem PE.wk {e : Expr} {t t' : TE} (h : PE X e t) (k : ∀ σ H Q, t' σ H Q → t σ H Q) : PE X e t' := ⟨fun pins s σ H Q I z => h.run pins s σ H Q I (k σ H Q z)⟩
theorem PT.wk {e : Expr} {t t' : TT} (h : PT X e t) (k : ∀ σ H Q, t' σ H Q → t σ H Q) : PT X e t' := ⟨fun pins s σ H Q I z => h.run pins s σ H Q I (k σ H Q z)⟩
theorem PW.wk {e : Expr} {t t' : TT} (h : PW X e t) (k : ∀ σ H Q, t' σ H Q → t σ H Q) : PW X e t' := ⟨fun wh pins s σ H Q I z => h.run wh pins s σ H Q I (k σ H Q z)⟩
theorem PA.wk {es : List Expr} {t t' : TA} (h : PA X es t) (k : ∀ σ H Q, t' σ H Q → t σ H Q) : PA X es t' := ⟨fun pos pins s σ H Q I z => h.run pos pins s σ H Q I (k σ H Q z)⟩
theorem PS.wk {e : Stmt} {t t' : TS} (h : PS X e t) (k : ∀ B σ H, t' B σ H → t B σ H) : PS X e t' := ⟨fun pins s σ H B I z => h.run pins s σ H B I (k B σ H z)⟩
theorem PSs.wk {e : List Stmt} {t t' : TS} (h : PSs X e t) (k : ∀ B σ H, t' B σ H → t B σ H) : PSs X e t' := ⟨fun pins s σ H B I z => h.run pins s σ H B I (k B σ H z)⟩
end
/-- the context's written part and names are Z's -/
class Fit (X : Cx) (Z : Zx) : Prop where
  K : X.K = Z.K
  mg : X.mg = Z.mg
/-! ### extension of the heap -/
section
variable {Z : Zx} {σ σ' : L2.St} {ρ ρ' : Rho} {H H' : Hp} {G : Addr → Prop}
theorem same_upd {p : Addr} {o : HO} (h : H p = none) : Same H (upd H p o) := fun b u e => by
  rw [upd_ne (ne_of_none e h)]
  exact e
theorem Stp.ext (s : Same H H') : Stp Z σ ρ H σ ρ H' := ⟨fun a o h _ _ => s a o h, fun _ _ _ _ h => h, fun i ds h => ⟨rfl, ds, h⟩⟩
theorem vis_ext {S : Addr → Prop} (s : Same H H') : Sub (vis H S) (vis H' S) := vis_sub fun a o h n _ => ⟨n, s a o h⟩
theorem Ok.ext [GoodJ Z] (k : Ok Z σ ρ H G) (s : Same H H') : Ok Z σ ρ H' G where
  len := k.len
  val := fun i d e => by
    obtain ⟨v, h1, h2⟩ := k.val i d e
    exact ⟨v, h1, h2.sub (vis_ext s)⟩
  own := fun i ds e => by
    obtain ⟨a, vs, h1, h2, h3, h4⟩ := k.own i ds e
    exact ⟨a, vs, h1, s _ _ h2, h3.sub (vis_ext s), h4⟩
  inj := k.inj
  j := GoodJ.j _ _ (fun a o h _ => s a o h) k.j
  gt := fun a h => by
    obtain ⟨o, h1, h2⟩ := k.gt a h
    exact ⟨o, s _ _ h1, h2⟩
/-- a fresh address is seen -/
theorem Ok.fresh (k : Ok Z σ ρ H G) {p : Addr} (h : H p = none) : ¬ Hid ρ σ G p := fun z => by
  rcases z with z | ⟨i, ds, e1, e2⟩
  · obtain ⟨o, h1, _⟩ := k.gt p z
    rw [h] at h1
    cases h1
  · obtain ⟨a, vs, h1, h2, _⟩ := k.own i ds e1
    rw [h1] at e2
    cases e2
    rw [h] at h2
    cases h2
theorem Ok.freshV (k : Ok Z σ ρ H G) {p : Addr} {o : HO} (h : H p = none) : vis (upd H p o) (Hid ρ σ G) p = some o := vis_some.mpr ⟨k.fresh h, upd_same⟩
end
/-! ### names, constants -/
section
variable {X : Cx} {Z : Zx} {W : WX}
/-- a slot is read; a list of one's own goes over into a value -/
def dVar (i : Nat) : DE := fun ρ Q _ => match slAt ρ i with
  | .val d => Q d ρ
  | .own ds => Q (.lst ds) (ρ.set i .no)
  | _ => False
theorem Ok.move {σ : L2.St} {ρ : Rho} {H : Hp} {G : Addr → Prop} {i : Nat} {ds : List D} (k : Ok Z σ ρ H G) (e : slAt ρ i = .own ds) :
    Ok Z σ (ρ.set i .no) H G ∧ Stp Z σ ρ H σ (ρ.set i .no) H ∧ ∃ v, σ[i]? = some (some v) ∧ Rp Z (vis H (Hid (ρ.set i .no) σ G)) (.lst ds) v := by
  have hl : i < ρ.length := slAt_lt (by rw [e]; exact fun z => by cases z)
  have hh : heldAt ρ i = some ds := by unfold heldAt; rw [e]; rfl
  have at_ : ∀ j, slAt (ρ.set i .no) j = if i = j then .no else slAt ρ j := fun j => by
    rw [slAt_set]
    by_cases q : i = j
    · subst q
      rw [if_pos ⟨rfl, hl⟩, if_pos rfl]
    · rw [if_neg (fun z => q z.1), if_neg q]
  have held : ∀ j xs, heldAt (ρ.set i .no) j = some xs → i ≠ j ∧ heldAt ρ j = some xs := fun j xs z => by
    unfold heldAt at z ⊢
    rw [at_ j] at z
    by_cases q : i = j
    · rw [if_pos q] at z
      cases z
    · rw [if_neg q] at z
      exact ⟨q, z⟩
  have ow : ∀ a, Ow (ρ.set i .no) σ a → Ow ρ σ a := fun a ⟨j, xs, e1, e2⟩ => ⟨j, xs, (held j xs e1).2, e2⟩
  have sub : Sub (vis H (Hid ρ σ G)) (vis H (Hid (ρ.set i .no) σ G)) := vis_sub fun a o h n _ => ⟨fun z => n (z.imp (fun z => z) (ow a)), h⟩
  obtain ⟨a, vs, h1, h2, h3, h4⟩ := k.own i ds hh
  refine ⟨⟨by rw [List.length_set]; exact k.len, fun j d z => ?_, fun j xs z => ?_, fun j l xs ys b z1 z2 => k.inj j l xs ys b (held j xs z1).2 (held l ys z2).2, k.j, k.gt⟩, ⟨fun _ _ h _ _ => h, fun a o _ _ n z => n (ow a z), fun j xs z => ⟨rfl, xs, ?_⟩⟩, .ref a, h1, a, vs, rfl, ?_, h3.sub sub⟩
  · rw [at_ j] at z
    by_cases q : i = j
    · rw [if_pos q] at z
      cases z
    · rw [if_neg q] at z
      obtain ⟨v, w1, w2⟩ := k.val j d z
      exact ⟨v, w1, w2.sub sub⟩
  · obtain ⟨b, ws, w1, w2, w3, w4⟩ := k.own j xs (held j xs z).2
    exact ⟨b, ws, w1, w2, w3.sub sub, w4⟩
  · rw [at_ j, if_neg]
    · exact z
    · intro q
      rw [← q, e] at z
      cases z
  · refine vis_some.mpr ⟨fun z => ?_, h2⟩
    rcases z with z | ⟨j, xs, e1, e2⟩
    · exact h4 z
    · obtain ⟨q, e3⟩ := held j xs e1
      exact q (k.inj i j ds xs a hh e3 h1 e2)
theorem de_var {i : Nat} {x : Str} {pos : Pos} (hN : X.N[i]? = some x := by rfl) (hv : Vis X.env.scope x := by first | exact Or.inl rfl | exact Or.inr (Or.inl rfl) | exact Or.inr (Or.inr rfl))
    (hd : (x == ("__debug__" : Str)) = false := by decide) (hcd : (x == ("__classdict__" : Str)) = false := by decide) : PE X (.Name x pos) (upE Z W (dVar i)) :=
  PE.wk (pe_var hN hv hd hcd) fun σ H Q ⟨ρ, G, Qd, E, ok, h, hq, _⟩ => by
    unfold dVar at h
    cases e : slAt ρ i with
    | val d =>
      rw [e] at h
      obtain ⟨v, h1, h2⟩ := ok.val i d e
      exact ⟨v, h1, hq d v ρ H ok .refl h2 h⟩
    | own ds =>
      rw [e] at h
      obtain ⟨k1, k2, v, k3, k4⟩ := ok.move e
      exact ⟨v, k3, hq _ v _ H k1 k2 k4 h⟩
    | no => rw [e] at h; exact h.elim
    | brw ds => rw [e] at h; exact h.elim
def dC (d : D) : DE := fun ρ Q _ => Q d ρ
theorem up_c {d : D} {v : V} (r : ∀ H, Rp Z H d v) (σ : L2.St) (H : Hp) (Q : VK) (h : upE Z W (dC d) σ H Q) : tC v σ H Q := by
  obtain ⟨ρ, G, Qd, E, ok, h, hq, _⟩ := h
  exact hq d v ρ H ok .refl (r _) h
theorem de_int {i j pos} : PE X (.Constant (.int i) j pos) (upE Z W (dC (.int i))) := PE.wk pe_int (up_c fun _ => rfl)
theorem de_bl {b j pos} : PE X (.Constant (.bool b) j pos) (upE Z W (dC (.bl b))) := PE.wk pe_bl (up_c fun _ => rfl)
theorem de_non {j pos} : PE X (.Constant .none j pos) (upE Z W (dC .non)) := PE.wk pe_non (up_c fun _ => rfl)
theorem de_str {x j pos} : PE X (.Constant (.str x) j pos) (upE Z W (dC (.str x))) := PE.wk pe_str (up_c fun _ => rfl)
/-- a function or a class of the module as a value -/
theorem de_glo {x : Str} {a : Addr} {pos : Pos} [F : Fit X Z] (hm : Z.mg x = some (.ref a)) (hg : Gl X x := by rfl) (hd : (x == ("__debug__" : Str)) = false := by decide) : PE X (.Name x pos) (upE Z W (dC (.glo x))) :=
  PE.wk (pe_glob (v := .ref a) hg (by rw [F.mg]; exact hm) rfl hd) (up_c fun _ => ⟨a, rfl, hm⟩)
/-- an int of the module -/
theorem de_gint {x : Str} {i : Int} {pos : Pos} [F : Fit X Z] (hm : ∃ t, Z.mg x = some (.int i t)) (hg : Gl X x := by rfl) (hd : (x == ("__debug__" : Str)) = false := by decide) : PE X (.Name x pos) (upE Z W (dC (.int i))) := by
  obtain ⟨t, hm⟩ := hm
  exact PE.wk (pe_glob (v := .int i) hg (by rw [F.mg]; exact hm) ⟨t, rfl⟩ hd) (up_c fun _ => rfl)
/-- any value of the module that is data -/
theorem de_gdat {x : Str} {d : D} {v : V} {u : Value} {pos : Pos} [F : Fit X Z] (hm : Z.mg x = some u) (hr : RelV v u) (hd' : ∀ H, Rp Z H d v) (hg : Gl X x := by rfl) (hd : (x == ("__debug__" : Str)) = false := by decide) : PE X (.Name x pos) (upE Z W (dC d)) :=
  PE.wk (pe_glob (v := v) hg (by rw [F.mg]; exact hm) hr hd) (up_c hd')
/-! ### argument lists, displays -/
def aNil : DA := fun ρ Q _ => Q [] ρ
def aCons (t : DE) (u : DA) : DA := fun ρ Q E => t ρ (fun d ρ1 => u ρ1 (fun ds ρ2 => Q (d :: ds) ρ2) E) E
theorem da_nil : PA X [] (upA Z W aNil) := PA.wk pa_nil fun σ H Q ⟨ρ, G, Qd, E, ok, h, hq, _⟩ => hq [] [] ρ H ok .refl trivial h
theorem da_cons {e : Expr} {es : List Expr} {t : DE} {u : DA} (ha : PE X e (upE Z W t)) (hr : PA X es (upA Z W u)) (hs : starEach (e :: es) X.env = (false, eval e X.env) :: starEach es X.env := by rfl) :
    PA X (e :: es) (upA Z W (aCons t u)) := PA.wk (pa_cons ha hr hs) fun σ H Q ⟨ρ, G, Qd, E, ok, h, hq, hx⟩ => by
  refine ⟨ρ, G, _, E, ok, h, fun d v ρ1 H1 ok1 s1 r1 h1 => ?_, hx⟩
  refine ⟨ρ1, G, _, E, ok1, h1, fun ds vs ρ2 H2 ok2 s2 r2 h2 => ?_, hx.step s1⟩
  exact hq (d :: ds) (v :: vs) ρ2 H2 ok2 (s1.trans s2) ⟨r1.sub s2.vis, r2⟩ h2
def dTup (t : DA) : DE := fun ρ Q E => t ρ (fun ds ρ' => Q (.tup ds) ρ') E
def dLst (t : DA) : DE := fun ρ Q E => t ρ (fun ds ρ' => Q (.lst ds) ρ') E
theorem up_tup [GoodJ Z] {t : DA} (hz : ∀ ρ Q E, t ρ Q E → t ρ (fun ds ρ' => ds.length ≤ sizeLine ∧ Q ds ρ') E) (σ : L2.St) (H : Hp) (Q : VK) (h : upE Z W (dTup t) σ H Q) : tTup (upA Z W t) σ H Q := by
  obtain ⟨ρ, G, Qd, E, ok, h, hq, hx⟩ := h
  refine ⟨ρ, G, _, E, ok, hz _ _ _ h, fun ds vs ρ1 H1 ok1 s1 r1 h1 => ⟨by rw [← r1.len]; exact h1.1, fun p hp => ?_⟩, hx⟩
  exact hq (.tup ds) (.ref p) ρ1 _ (ok1.ext (same_upd hp)) (s1.trans (.ext (same_upd hp))) ⟨p, vs, rfl, .of (ok1.freshV hp), r1.sub (vis_ext (same_upd hp))⟩ h1.2
theorem up_lst [GoodJ Z] {t : DA} (hz : ∀ ρ Q E, t ρ Q E → t ρ (fun ds ρ' => ds.length ≤ sizeLine ∧ Q ds ρ') E) (σ : L2.St) (H : Hp) (Q : VK) (h : upE Z W (dLst t) σ H Q) : tLst (upA Z W t) σ H Q := by
  obtain ⟨ρ, G, Qd, E, ok, h, hq, hx⟩ := h
  refine ⟨ρ, G, _, E, ok, hz _ _ _ h, fun ds vs ρ1 H1 ok1 s1 r1 h1 => ⟨by rw [← r1.len]; exact h1.1, fun p hp => ?_⟩, hx⟩
  exact hq (.lst ds) (.ref p) ρ1 _ (ok1.ext (same_upd hp)) (s1.trans (.ext (same_upd hp))) ⟨p, vs, rfl, ok1.freshV hp, r1.sub (vis_ext (same_upd hp))⟩ h1.2
end
end TS
set_option Elab.async false
set_option linter.all false
set_option maxRecDepth 100000
set_option maxHeartbeats 4000000
set_option exponentiation.threshold 10000
namespace TS
open PySem PySem.Spec PyProof.Rows L2
/-! ### equality of data -/
mutual
def eqD : D → D → Bool
  | .non, .non => true
  | .bl a, .bl b => a == b
  | .bl a, .int j => (if a then 1 else 0) == j
  | .int i, .bl b => i == (if b then 1 else 0)
  | .int i, .int j => i == j
  | .str x, .str y => x == y
  | .lst xs, .lst ys => eqL xs ys
  | .tup xs, .tup ys => eqL xs ys
  | .non, .bl _ | .non, .int _ | .non, .str _ | .non, .lst _ | .non, .tup _ | .non, .scr _ | .non, .glo _ | .non, .ty _ => false
  | .bl _, .non | .bl _, .str _ | .bl _, .lst _ | .bl _, .tup _ | .bl _, .scr _ | .bl _, .glo _ | .bl _, .ty _ => false
  | .int _, .non | .int _, .str _ | .int _, .lst _ | .int _, .tup _ | .int _, .scr _ | .int _, .glo _ | .int _, .ty _ => false
  | .str _, .non | .str _, .bl _ | .str _, .int _ | .str _, .lst _ | .str _, .tup _ | .str _, .scr _ | .str _, .glo _ | .str _, .ty _ => false
  | .lst _, .non | .lst _, .bl _ | .lst _, .int _ | .lst _, .str _ | .lst _, .tup _ | .lst _, .scr _ | .lst _, .glo _ | .lst _, .ty _ => false
  | .tup _, .non | .tup _, .bl _ | .tup _, .int _ | .tup _, .str _ | .tup _, .lst _ | .tup _, .scr _ | .tup _, .glo _ | .tup _, .ty _ => false
  | .scr _, _ => false
  | .glo _, _ => false
  | .ty _, _ => false
def eqL : List D → List D → Bool
  | [], [] => true
  | x :: xs, y :: ys => eqD x y && eqL xs ys
  | [], _ :: _ => false
  | _ :: _, [] => false
end
/-- data of depth at most n, its texts proper -/
def okD : Nat → D → Bool
  | _, .non => true
  | _, .bl _ => true
  | _, .int _ => true
  | _, .str x => PyData.strOk x
  | n + 1, .tup ds => ds.all (okD n)
  | n + 1, .lst ds => ds.all (okD n)
  | _, _ => false
mutual
def D.py : D → PyData
  | .non => .none
  | .bl b => .bool b
  | .int i => .int i
  | .str x => .str x
  | .tup ds => .tuple (D.pyL ds)
  | .lst ds => .list (D.pyL ds)
  | _ => .none
def D.pyL : List D → List PyData
  | [] => []
  | d :: ds => d.py :: D.pyL ds
end
theorem okD_shape : ∀ (n : Nat) (d : D), okD n d = true → d.py.canLay0 = true ∧ d.py.depth ≤ n
  | n, .non, _ => by cases n <;> simp [D.py, PyData.canLay0, PyData.depth]
  | n, .bl _, _ => by cases n <;> simp [D.py, PyData.canLay0, PyData.depth]
  | n, .int _, _ => by cases n <;> simp [D.py, PyData.canLay0, PyData.depth]
  | n, .str x, h => by
    have h' : PyData.strOk x = true := by cases n <;> exact h
    refine ⟨?_, ?_⟩
    · simp only [D.py, PyData.canLay0]
      exact h'
    · simp [D.py, PyData.depth]
  | 0, .tup ds, h => by simp [okD] at h
  | 0, .lst ds, h => by simp [okD] at h
  | n + 1, .tup ds, h => by
    have z : ∀ ds : List D, ds.all (okD n) = true → PyData.canLayAll0 (D.pyL ds) = true ∧ PyData.depthAll (D.pyL ds) ≤ n := by
      intro ds
      induction ds with
      | nil => intro _; simp [D.pyL, PyData.canLayAll0, PyData.depthAll]
      | cons d r ih =>
        intro h
        simp only [List.all_cons, Bool.and_eq_true] at h
        obtain ⟨a1, a2⟩ := okD_shape n d h.1
        obtain ⟨b1, b2⟩ := ih h.2
        simp only [D.pyL, PyData.canLayAll0, PyData.depthAll, a1, b1, Bool.and_self, true_and]
        exact Nat.max_le.mpr ⟨a2, b2⟩
    obtain ⟨b1, b2⟩ := z ds (by simpa [okD] using h)
    simp only [D.py, PyData.canLay0, PyData.depth]
    exact ⟨b1, by omega⟩
  | n + 1, .lst ds, h => by
    have z : ∀ ds : List D, ds.all (okD n) = true → PyData.canLayAll0 (D.pyL ds) = true ∧ PyData.depthAll (D.pyL ds) ≤ n := by
      intro ds
      induction ds with
      | nil => intro _; simp [D.pyL, PyData.canLayAll0, PyData.depthAll]
      | cons d r ih =>
        intro h
        simp only [List.all_cons, Bool.and_eq_true] at h
        obtain ⟨a1, a2⟩ := okD_shape n d h.1
        obtain ⟨b1, b2⟩ := ih h.2
        simp only [D.pyL, PyData.canLayAll0, PyData.depthAll, a1, b1, Bool.and_self, true_and]
        exact Nat.max_le.mpr ⟨a2, b2⟩
    obtain ⟨b1, b2⟩ := z ds (by simpa [okD] using h)
    simp only [D.py, PyData.canLay0, PyData.depth]
    exact ⟨b1, by omega⟩
  | n, .scr _, h => by cases n <;> simp [okD] at h
  | n, .glo _, h => by cases n <;> simp [okD] at h
  | n, .ty _, h => by cases n <;> simp [okD] at h
theorem okD_shaped {d : D} (h : okD 60 d = true) : SeqAt.shaped d.py = true := by
  obtain ⟨h1, h2⟩ := okD_shape 60 d h
  unfold SeqAt.shaped
  rw [h1, Bool.true_and]
  exact decide_eq_true (by omega)
mutual
/-- data without names -/
def bare : D → Bool
  | .non => true
  | .bl _ => true
  | .int _ => true
  | .str _ => true
  | .tup ds => bareL ds
  | .lst ds => bareL ds
  | .scr _ => false
  | .glo _ => false
  | .ty _ => false
def bareL : List D → Bool
  | [] => true
  | d :: ds => bare d && bareL ds
end
theorem okD_bare : ∀ (n : Nat) (d : D), okD n d = true → bare d = true
  | n, .non, _ => rfl
  | n, .bl _, _ => rfl
  | n, .int _, _ => rfl
  | n, .str x, h => rfl
  | 0, .tup ds, h => by simp [okD] at h
  | 0, .lst ds, h => by simp [okD] at h
  | n + 1, .tup ds, h => by
    have z : ∀ ds : List D, ds.all (okD n) = true → bareL ds = true := by
      intro ds
      induction ds with
      | nil => intro _; rfl
      | cons d r ih =>
        intro h
        simp only [List.all_cons, Bool.and_eq_true] at h
        simp only [bareL, okD_bare n d h.1, ih h.2, Bool.and_self]
    simp only [bare]
    exact z ds (by simpa [okD] using h)
  | n + 1, .lst ds, h => by
    have z : ∀ ds : List D, ds.all (okD n) = true → bareL ds = true := by
      intro ds
      induction ds with
      | nil => intro _; rfl
      | cons d r ih =>
        intro h
        simp only [List.all_cons, Bool.and_eq_true] at h
        simp only [bareL, okD_bare n d h.1, ih h.2, Bool.and_self]
    simp only [bare]
    exact z ds (by simpa [okD] using h)
  | n, .scr _, h => by cases n <;> simp [okD] at h
  | n, .glo _, h => by cases n <;> simp [okD] at h
  | n, .ty _, h => by cases n <;> simp [okD] at h
mutual
theorem eqD_py : ∀ d e : D, bare d = true → bare e = true → PyData.eqv d.py e.py = eqD d e
  | .lst xs, .lst ys, h, k => by simp only [D.py, PyData.eqv, eqD]; exact eqL_py xs ys (by simpa [bare] using h) (by simpa [bare] using k)
  | .tup xs, .tup ys, h, k => by simp only [D.py, PyData.eqv, eqD]; exact eqL_py xs ys (by simpa [bare] using h) (by simpa [bare] using k)
  | .non, e, _, k => by cases e <;> first | (simp [bare] at k; done) | simp [D.py, PyData.eqv, eqD]
  | .bl _, e, _, k => by cases e <;> first | (simp [bare] at k; done) | simp [D.py, PyData.eqv, eqD]
  | .int _, e, _, k => by cases e <;> first | (simp [bare] at k; done) | simp [D.py, PyData.eqv, eqD]
  | .str _, e, _, k => by cases e <;> first | (simp [bare] at k; done) | simp [D.py, PyData.eqv, eqD]
  | .lst _, .non, _, _ => by simp [D.py, PyData.eqv, eqD]
  | .lst _, .bl _, _, _ => by simp [D.py, PyData.eqv, eqD]
  | .lst _, .int _, _, _ => by simp [D.py, PyData.eqv, eqD]
  | .lst _, .str _, _, _ => by simp [D.py, PyData.eqv, eqD]
  | .lst _, .tup _, _, _ => by simp [D.py, PyData.eqv, eqD]
  | .tup _, .non, _, _ => by simp [D.py, PyData.eqv, eqD]
  | .tup _, .bl _, _, _ => by simp [D.py, PyData.eqv, eqD]
  | .tup _, .int _, _, _ => by simp [D.py, PyData.eqv, eqD]
  | .tup _, .str _, _, _ => by simp [D.py, PyData.eqv, eqD]
  | .tup _, .lst _, _, _ => by simp [D.py, PyData.eqv, eqD]
  | .lst _, .scr _, _, k => by simp [bare] at k
  | .lst _, .glo _, _, k => by simp [bare] at k
  | .lst _, .ty _, _, k => by simp [bare] at k
  | .tup _, .scr _, _, k => by simp [bare] at k
  | .tup _, .glo _, _, k => by simp [bare] at k
  | .tup _, .ty _, _, k => by simp [bare] at k
  | .scr _, _, h, _ => by simp [bare] at h
  | .glo _, _, h, _ => by simp [bare] at h
  | .ty _, _, h, _ => by simp [bare] at h
theorem eqL_py : ∀ ds es : List D, bareL ds = true → bareL es = true → PyData.eqvAll (D.pyL ds) (D.pyL es) = eqL ds es
  | [], [], _, _ => by simp [D.pyL, PyData.eqvAll, eqL]
  | d :: ds, e :: es, h, k => by
    simp only [bareL, Bool.and_eq_true] at h k
    simp only [D.pyL, PyData.eqvAll, eqL, eqD_py d e h.1 k.1, eqL_py ds es h.2 k.2]
  | [], _ :: _, _, _ => by simp [D.pyL, PyData.eqvAll, eqL]
  | _ :: _, [], _, _ => by simp [D.pyL, PyData.eqvAll, eqL]
end
section
variable {Z : Zx} {H : Hp} {S : Addr → Prop}
theorem vis_rd {a : Addr} {u : HO} (h : Rd (vis H S) a u) : Rd H a u := h.imp (fun h => (vis_some.mp h).2) fun ⟨o, h⟩ => ⟨o, (vis_some.mp h).2⟩
theorem vis_sqT {a : Addr} {xs : List V} (h : SqT Z.K (vis H S) a xs) : SqT Z.K H a xs := h.imp vis_rd fun z => z
theorem vis_sqL {a : Addr} {xs : List V} (h : SqL Z.K (vis H S) a xs) : SqL Z.K H a xs := h.imp vis_rd fun z => z
mutual
theorem Rp.dp : ∀ (d : D) (v : V), bare d = true → Rp Z (vis H S) d v → Dp Z.K H v d.py
  | .non, v, _, r => by cases r; exact .non
  | .bl b, v, _, r => by cases r; exact .bl b
  | .int i, v, _, r => by cases r; exact .int i
  | .str x, v, _, r => by cases r; exact .str x
  | .tup ds, v, h, r => by
    obtain ⟨a, vs, rfl, q, r2⟩ := (show ∃ a vs, v = .ref a ∧ SqT Z.K (vis H S) a vs ∧ RpL Z (vis H S) ds vs from r)
    exact .tup (vis_sqT q) (RpL.dp ds vs (by simpa [bare] using h) r2)
  | .lst ds, v, h, r => by
    obtain ⟨a, vs, rfl, q, r2⟩ := (show ∃ a vs, v = .ref a ∧ vis H S a = some (.lst vs) ∧ RpL Z (vis H S) ds vs from r)
    exact .lst (.of (vis_some.mp q).2) (RpL.dp ds vs (by simpa [bare] using h) r2)
  | .scr _, _, h, _ => by simp [bare] at h
  | .glo _, _, h, _ => by simp [bare] at h
  | .ty _, _, h, _ => by simp [bare] at h
theorem RpL.dp : ∀ (ds : List D) (vs : List V), bareL ds = true → RpL Z (vis H S) ds vs → DpAll Z.K H vs (D.pyL ds)
  | [], [], _, _ => .nil
  | d :: ds, v :: vs, h, r => by
    simp only [bareL, Bool.and_eq_true] at h
    exact .cons (Rp.dp d v h.1 r.1) (RpL.dp ds vs h.2 r.2)
  | [], _ :: _, _, r => r.elim
  | _ :: _, [], _, r => r.elim
end
end
/-! ### operators -/
/-- an operator on plain data -/
abbrev O2 := D → D → (D → Prop) → Prop
def OpOk (Z : Zx) (r : R2) (f : O2) : Prop := ∀ (σ : L2.St) (ρ : Rho) (H : Hp) (G : Addr → Prop) (x y : D) (v u : V) (Qd : D → Prop) (Q : VK), Ok Z σ ρ H G → Rp Z (vis H (Hid ρ σ G)) x v → Rp Z (vis H (Hid ρ σ G)) y u → f x y Qd →
  (∀ d w H', Same H H' → Rp Z (vis H' (Hid ρ σ G)) d w → Qd d → Q w H') → r v u H Q
def dOp (f : O2) (a b : DE) : DE := fun ρ Q E => a ρ (fun x ρ1 => b ρ1 (fun y ρ2 => f x y fun z => Q z ρ2) E) E
section
variable {X : Cx} {Z : Zx} {W : WX}
theorem up_op [GoodJ Z] {r : R2} {f : O2} (k : OpOk Z r f) {a b : DE} (σ : L2.St) (H : Hp) (Q : VK) (h : upE Z W (dOp f a b) σ H Q) : tOp r (upE Z W a) (upE Z W b) σ H Q := by
  obtain ⟨ρ, G, Qd, E, ok, h, hq, hx⟩ := h
  refine ⟨ρ, G, _, E, ok, h, fun x v ρ1 H1 ok1 s1 r1 h1 => ?_, hx⟩
  refine ⟨ρ1, G, _, E, ok1, h1, fun y u ρ2 H2 ok2 s2 r2 h2 => ?_, hx.step s1⟩
  exact k σ ρ2 H2 G x y v u _ Q ok2 (r1.sub s2.vis) r2 h2 fun d w H3 sm r3 q3 => hq d w ρ2 H3 (ok2.ext sm) ((s1.trans s2).trans (.ext sm)) r3 q3
theorem de_op [GoodJ Z] {op : Operator} {r : R2} {f : O2} (k : OpOk Z r f) {a b : Expr} {ta tb : DE} {pos : Pos} (ho : OpR X (binaryOp op) r) (ha : PE X a (upE Z W ta)) (hb : PE X b (upE Z W tb)) : PE X (.BinOp a op b pos) (upE Z W (dOp f ta tb)) :=
  PE.wk (pe_op ho ha hb) (up_op k)
theorem de_cmp [GoodJ Z] {op : CmpOp} {r : R2} {f : O2} (k : OpOk Z r f) {a b : Expr} {ta tb : DE} {pos : Pos} (ho : OpR X (compareOp op) r) (ha : PE X a (upE Z W ta)) (hb : PE X b (upE Z W tb)) (hm : behindInMarks op b = false) :
    PE X (.Compare a [op] [b] pos) (upE Z W (dOp f ta tb)) := PE.wk (pe_cmpR ho ha hb hm) (up_op k)
theorem de_ix [GoodJ Z] {r : R2} {f : O2} (k : OpOk Z r f) {a b : Expr} {ta tb : DE} {pos : Pos} (hr : IxR X r) (ha : PE X a (upE Z W ta)) (hb : PE X b (upE Z W tb)) (hs : PlainIx b) : PE X (.Subscript a b pos) (upE Z W (dOp f ta tb)) :=
  PE.wk (pe_ix hr ha hb hs) (up_op k)
end
theorem OpOk.or {Z : Zx} {r r' : R2} {f g : O2} (h : OpOk Z r f) (k : OpOk Z r' g) : OpOk Z (fun x y H Q => r x y H Q ∨ r' x y H Q) (fun x y Q => f x y Q ∨ g x y Q) :=
  fun σ ρ H G x y v u Qd Q ok rx ry z hq => z.elim (fun z => .inl (h σ ρ H G x y v u Qd Q ok rx ry z hq)) fun z => .inr (k σ ρ H G x y v u Qd Q ok rx ry z hq)
/-- lists, tuples, texts have at most so many items -/
def LIM : Nat := 1000000
theorem LIM_le : LIM ≤ sizeLine := by rw [sizeLine_eq]; decide
def MulOk (i j : Int) : Prop := (-(2 ^ 64) < j ∧ j < 2 ^ 64) ∨ (-(2 ^ 64) < i ∧ i < 2 ^ 64) ∨ (i.natAbs < 2 ^ 4000 ∧ j.natAbs < 2 ^ 4000)
def oAdd : O2
  | .int i, .int j, Q => Q (.int (i + j))
  | .str x, .str y, Q => x.length + y.length ≤ LIM ∧ Q (.str (x ++ y))
  | .tup xs, .tup ys, Q => xs.length + ys.length ≤ LIM ∧ Q (.tup (xs ++ ys))
  | .lst xs, .lst ys, Q => xs.length + ys.length ≤ LIM ∧ Q (.lst (xs ++ ys))
  | _, _, _ => False
def oInt (C : Int → Int → Prop) (g : Int → Int → D) : O2
  | .int i, .int j, Q => C i j ∧ Q (g i j)
  | _, _, _ => False
def oSub : O2 := oInt (fun _ _ => True) fun i j => .int (i - j)
def oMulI : O2 := oInt MulOk fun i j => .int (i * j)
def oMod : O2 := oInt (fun _ j => 0 < j) fun i j => .int (i % j)
def DivOk (j : Int) : Prop := 0 < j ∧ j < 2 ^ 8000
def oDiv : O2 := oInt (fun _ j => DivOk j) fun i j => .int (i / j)
def oPow : O2 := oInt (fun i j => 0 ≤ j ∧ j ≤ 1000 ∧ -(2 ^ 60) < i ∧ i < 2 ^ 60) fun i j => .int (i ^ j.toNat)
def oLt : O2 := oInt (fun _ _ => True) fun i j => .bl (decide (i < j))
def oLe : O2 := oInt (fun _ _ => True) fun i j => .bl (decide (i ≤ j))
def oGt : O2 := oInt (fun _ _ => True) fun i j => .bl (decide (j < i))
def oGe : O2 := oInt (fun _ _ => True) fun i j => .bl (decide (j ≤ i))
def oEq : O2 := fun x y Q => (okD 60 x = true ∧ okD 60 y = true) ∧ Q (.bl (eqD x y))
def oNe : O2 := fun x y Q => (okD 60 x = true ∧ okD 60 y = true) ∧ Q (.bl (!eqD x y))
def isNon : D → Bool
  | .non => true
  | _ => false
def oIsN : O2
  | x, .non, Q => Q (.bl (isNon x))
  | _, _, _ => False
def oNotN : O2
  | x, .non, Q => Q (.bl (!isNon x))
  | _, _, _ => False
def flatD : D → Bool
  | .non => true
  | .bl _ => true
  | .int _ => true
  | .str _ => true
  | _ => false
def oIn : O2
  | .str x, .str y, Q => Q (.bl (!(Builtin.Str.occurrences y x 0 y.length 1).isEmpty))
  | x, .tup ds, Q => (flatD x = true ∧ ds.all flatD = true) ∧ Q (.bl (ds.any fun y => eqD y x))
  | x, .lst ds, Q => (flatD x = true ∧ ds.all flatD = true) ∧ Q (.bl (ds.any fun y => eqD y x))
  | _, _, _ => False
def oNotIn : O2
  | .str x, .str y, Q => Q (.bl (!(!(Builtin.Str.occurrences y x 0 y.length 1).isEmpty)))
  | x, .tup ds, Q => (flatD x = true ∧ ds.all flatD = true) ∧ Q (.bl (!(ds.any fun y => eqD y x)))
  | x, .lst ds, Q => (flatD x = true ∧ ds.all flatD = true) ∧ Q (.bl (!(ds.any fun y => eqD y x)))
  | _, _, _ => False
/-- in a list of any data -/
def oInL : O2
  | x, .lst ds, Q => (okD 50 x = true ∧ ds.all (okD 50) = true) ∧ Q (.bl (ds.any fun y => eqD y x))
  | _, _, _ => False
def oNotInL : O2
  | x, .lst ds, Q => (okD 50 x = true ∧ ds.all (okD 50) = true) ∧ Q (.bl (!ds.any fun y => eqD y x))
  | _, _, _ => False
def oIx : O2
  | .tup ds, .int i, Q => ∃ d, atI ds i = some d ∧ Q d
  | .lst ds, .int i, Q => ∃ d, atI ds i = some d ∧ Q d
  | .scr ns, .int i, Q => ∃ n, atI ns i = some n ∧ Q (.int n)
  | .str x, .int i, Q => ∃ c, x.length ≤ LIM ∧ atI x.cps.toList i = some c ∧ Q (.str ⟨#[c]⟩)
  | _, _, _ => False
section
variable {X : Cx} {Z : Zx} {W : WX}
theorem ok_int {C : Int → Int → Prop} {C' : Int → Int → Prop} {g : Int → Int → D} {g' : Int → Int → V} (hC : ∀ i j, C i j → C' i j) (hg : ∀ i j H, Rp Z H (g i j) (g' i j)) : OpOk Z (rI C' g') (oInt C g) := by
  intro σ ρ H G x y v u Qd Q ok rx ry h hq
  cases x with
  | int i =>
    cases y with
    | int j =>
      cases rx
      cases ry
      exact ⟨i, j, rfl, rfl, hC i j h.1, hq _ _ H (.refl H) (hg i j _) h.2⟩
    | _ => exact h.elim
  | _ => cases y <;> exact h.elim
theorem ok_int0 {g : Int → Int → D} {g' : Int → Int → V} (hg : ∀ i j H, Rp Z H (g i j) (g' i j)) : OpOk Z (rI0 g') (oInt (fun _ _ => True) g) := by
  intro σ ρ H G x y v u Qd Q ok rx ry h hq
  cases x with
  | int i =>
    cases y with
    | int j =>
      cases rx
      cases ry
      exact ⟨i, j, rfl, rfl, hq _ _ H (.refl H) (hg i j _) h.2⟩
    | _ => exact h.elim
  | _ => cases y <;> exact h.elim
/-- + of ints, texts, tuples, lists -/
def rAddAll (K : PySem.W.Frag) : R2 := fun x y H Q => rI0 (fun i j => .int (i + j)) x y H Q ∨ (∃ i j, x = .str i ∧ y = .str j ∧ i.length + j.length ≤ sizeLine ∧ Q (.str (i ++ j)) H) ∨ rCatA K x y H Q ∨ rCat x y H Q
theorem or_addAll : OpR X (binaryOp .Add) (rAddAll X.K) := op_add.or (op_add_str.or (op_catA.or op_cat))
theorem ok_add : OpOk Z (rAddAll Z.K) oAdd := by
  intro σ ρ H G x y v u Qd Q ok rx ry h hq
  cases x with
  | int i =>
    cases y with
    | int j =>
      cases rx
      cases ry
      exact .inl ⟨i, j, rfl, rfl, hq (.int (i + j)) _ H (.refl H) rfl h⟩
    | _ => exact h.elim
  | str i =>
    cases y with
    | str j =>
      cases rx
      cases ry
      exact .inr (.inl ⟨i, j, rfl, rfl, Nat.le_trans h.1 LIM_le, hq (.str (i ++ j)) _ H (.refl H) rfl h.2⟩)
    | _ => exact h.elim
  | tup xs =>
    cases y with
    | tup ys =>
      obtain ⟨a, vs, rfl, qa, ra⟩ := rx
      obtain ⟨b, ws, rfl, qb, rb⟩ := ry
      have la := ra.len
      have lb := rb.len
      refine .inr (.inr (.inl ⟨a, b, vs, ws, rfl, rfl, vis_sqT qa, vis_sqT qb, by rw [← la, ← lb]; exact Nat.le_trans h.1 LIM_le, fun e => ?_, fun _ e => ?_, fun _ _ p hp => ?_⟩))
      · subst e
        have e2 : xs = [] := List.length_eq_zero_iff.mp la
        subst e2
        exact hq (.tup ys) _ H (.refl H) ⟨b, ws, rfl, qb, rb⟩ h.2
      · subst e
        have e2 : ys = [] := List.length_eq_zero_iff.mp lb
        subst e2
        have z := h.2
        rw [List.append_nil] at z
        exact hq (.tup xs) _ H (.refl H) ⟨a, vs, rfl, qa, ra⟩ z
      · exact hq (.tup (xs ++ ys)) _ _ (same_upd hp) ⟨p, vs ++ ws, rfl, .of (ok.freshV hp), (ra.append rb).sub (vis_ext (same_upd hp))⟩ h.2
    | _ => exact h.elim
  | lst xs =>
    cases y with
    | lst ys =>
      obtain ⟨a, vs, rfl, qa, ra⟩ := rx
      obtain ⟨b, ws, rfl, qb, rb⟩ := ry
      have la := ra.len
      have lb := rb.len
      exact .inr (.inr (.inr ⟨a, b, vs, ws, rfl, rfl, (vis_some.mp qa).2, (vis_some.mp qb).2, by rw [← la, ← lb]; exact Nat.le_trans h.1 LIM_le, fun p hp =>
        hq (.lst (xs ++ ys)) _ _ (same_upd hp) ⟨p, vs ++ ws, rfl, ok.freshV hp, (ra.append rb).sub (vis_ext (same_upd hp))⟩ h.2⟩))
    | _ => exact h.elim
  | _ => cases y <;> exact h.elim
theorem log2_of {i : Int} {n : Nat} (h0 : 0 < n) (h : i.natAbs < 2 ^ n) : i.natAbs.log2 < n := PySem.Flt.log2_lt_of h0 h
def rMulAll : R2 := fun x y H Q => rI CMul (fun i j => .int (i * j)) x y H Q ∨ rI CMulW (fun i j => .int (i * j)) x y H Q
theorem or_mulI : OpR X (binaryOp .Mult) rMulAll := op_mul.or op_mulW
theorem ok_mulI : OpOk Z rMulAll oMulI := by
  intro σ ρ H G x y v u Qd Q ok rx ry h hq
  cases x with
  | int i =>
    cases y with
    | int j =>
      cases rx
      cases ry
      rcases h with ⟨h | h | h, q⟩
      · exact .inl ⟨i, j, rfl, rfl, .inr h, hq (.int (i * j)) _ H (.refl H) rfl q⟩
      · exact .inl ⟨i, j, rfl, rfl, .inl h, hq (.int (i * j)) _ H (.refl H) rfl q⟩
      · exact .inr ⟨i, j, rfl, rfl, wide_mul h.1 h.2 (by decide) (by decide) (by decide), hq (.int (i * j)) _ H (.refl H) rfl q⟩
    | _ => exact h.elim
  | _ => cases y <;> exact h.elim
theorem ok_sub : OpOk Z (rI0 fun i j => .int (i - j)) oSub := ok_int0 fun _ _ _ => rfl
theorem ok_mod : OpOk Z (rI (fun _ j => 0 < j) fun i j => .int (i % j)) oMod := ok_int (fun _ _ h => h) fun _ _ _ => rfl
theorem ok_div : OpOk Z (rI CDivW fun i j => .int (i / j)) oDiv := ok_int (fun i j h => ⟨h.1, Nat.lt_trans (log2_of (n := 8000) (by decide) (by
    have h1 := h.1
    have h2 := h.2
    have e : (j.natAbs : Int) < ((2 ^ 8000 : Nat) : Int) := by
      rw [Int.natCast_pow]
      have : (j.natAbs : Int) = j := by omega
      rw [this]
      exact h2
    exact Int.ofNat_lt.mp e)) (by decide)⟩) fun _ _ _ => rfl
theorem ok_pow : OpOk Z (rI CPow fun i j => .int (i ^ j.toNat)) oPow := ok_int (fun i j h => ⟨h.1, by omega, by
    have := h.2.2
    have e : (2 : Nat) ^ 64 = 18446744073709551616 := by decide
    have e2 : (2 : Int) ^ 60 = 1152921504606846976 := by decide
    rw [e]
    omega⟩) fun _ _ _ => rfl
theorem ok_lt : OpOk Z (rI0 fun i j => .bl (decide (i < j))) oLt := ok_int0 fun _ _ _ => rfl
theorem ok_le : OpOk Z (rI0 fun i j => .bl (decide (i ≤ j))) oLe := ok_int0 fun _ _ _ => rfl
theorem ok_gt : OpOk Z (rI0 fun i j => .bl (decide (j < i))) oGt := ok_int0 fun _ _ _ => rfl
theorem ok_ge : OpOk Z (rI0 fun i j => .bl (decide (j ≤ i))) oGe := ok_int0 fun _ _ _ => rfl
theorem ok_eq : OpOk Z (rEqD Z.K) oEq := by
  intro σ ρ H G x y v u Qd Q ok rx ry h hq
  obtain ⟨⟨h1, h2⟩, q⟩ := h
  have b1 := okD_bare _ _ h1
  have b2 := okD_bare _ _ h2
  exact ⟨x.py, y.py, Rp.dp x v b1 rx, Rp.dp y u b2 ry, okD_shaped h1, okD_shaped h2, by rw [eqD_py x y b1 b2]; exact hq (.bl (eqD x y)) _ H (.refl H) rfl q⟩
theorem ok_ne : OpOk Z (rNeD Z.K) oNe := by
  intro σ ρ H G x y v u Qd Q ok rx ry h hq
  obtain ⟨⟨h1, h2⟩, q⟩ := h
  have b1 := okD_bare _ _ h1
  have b2 := okD_bare _ _ h2
  exact ⟨x.py, y.py, Rp.dp x v b1 rx, Rp.dp y u b2 ry, okD_shaped h1, okD_shaped h2, by rw [eqD_py x y b1 b2]; exact hq (.bl (!eqD x y)) _ H (.refl H) rfl q⟩
theorem Rp.isNon {H : Hp} {x : D} {v : V} (r : Rp Z H x v) : decide (v = V.non) = TS.isNon x := by
  cases x with
  | non => cases r; rfl
  | bl b => cases r; rfl
  | int i => cases r; rfl
  | str s => cases r; rfl
  | ty n => cases r; rfl
  | tup l => obtain ⟨a, _, rfl, _⟩ := r; rfl
  | lst l => obtain ⟨a, _, rfl, _⟩ := r; rfl
  | scr l => obtain ⟨a, rfl, _⟩ := r; rfl
  | glo n => obtain ⟨a, rfl, _⟩ := r; rfl
theorem ok_isN : OpOk Z (fun x y H Q => y = .non ∧ Q (.bl (decide (x = .non))) H) oIsN := by
  intro σ ρ H G x y v u Qd Q ok rx ry h hq
  cases y with
  | non =>
    cases ry
    have h' : Qd (.bl (isNon x)) := by cases x <;> exact h
    refine ⟨rfl, ?_⟩
    rw [rx.isNon]
    exact hq (.bl (isNon x)) _ H (.refl H) rfl h'
  | _ => cases x <;> exact h.elim
theorem ok_notN : OpOk Z (fun x y H Q => y = .non ∧ Q (.bl (!decide (x = .non))) H) oNotN := by
  intro σ ρ H G x y v u Qd Q ok rx ry h hq
  cases y with
  | non =>
    cases ry
    have h' : Qd (.bl (!isNon x)) := by cases x <;> exact h
    refine ⟨rfl, ?_⟩
    rw [rx.isNon]
    exact hq (.bl (!isNon x)) _ H (.refl H) rfl h'
  | _ => cases x <;> exact h.elim
end
end TS
set_option Elab.async false
set_option linter.all false
set_option maxRecDepth 100000
set_option maxHeartbeats 4000000
set_option exponentiation.threshold 10000
namespace TS
open PySem PySem.Spec PyProof.Rows L2
/-! ### items, in -/
section
variable {X : Cx} {Z : Zx} {W : WX} {A : Hp}
theorem atI_len {α β : Type} {xs : List α} {ys : List β} {i : Int} {x : α} (hl : xs.length = ys.length) (h : atI xs i = some x) : ∃ j : Nat, xs[j]? = some x ∧ ∀ y, ys[j]? = some y → atI ys i = some y := by
  unfold atI at h ⊢
  rw [← hl]
  cases e : ixN xs.length i with
  | none => rw [e] at h; cases h
  | some j =>
    rw [e] at h
    exact ⟨j, h, fun y q => q⟩
theorem RpL.atI {ds : List D} {vs : List V} {i : Int} {d : D} (r : RpL Z A ds vs) (h : L2.atI ds i = some d) : ∃ v, L2.atI vs i = some v ∧ Rp Z A d v := by
  obtain ⟨j, h1, h2⟩ := atI_len r.len h
  obtain ⟨v, h3, h4⟩ := r.get h1
  exact ⟨v, h2 v h3, h4⟩
theorem ok_ix : OpOk Z (rIx Z.K) oIx := by
  intro σ ρ H G x y v u Qd Q ok rx ry h hq
  cases x with
  | tup ds =>
    cases y with
    | int i =>
      obtain ⟨d, h1, h2⟩ := h
      obtain ⟨a, vs, rfl, q, r⟩ := rx
      cases ry
      obtain ⟨w, h3, h4⟩ := r.atI h1
      exact .inr (.inl ⟨a, vs, i, w, rfl, rfl, vis_sqT q, h3, hq d w H (.refl H) h4 h2⟩)
    | _ => exact h.elim
  | lst ds =>
    cases y with
    | int i =>
      obtain ⟨d, h1, h2⟩ := h
      obtain ⟨a, vs, rfl, q, r⟩ := rx
      cases ry
      obtain ⟨w, h3, h4⟩ := r.atI h1
      exact .inl ⟨a, vs, i, w, rfl, rfl, .of (vis_some.mp q).2, h3, hq d w H (.refl H) h4 h2⟩
    | _ => exact h.elim
  | scr ns =>
    cases y with
    | int i =>
      obtain ⟨n, h1, h2⟩ := h
      obtain ⟨a, rfl, q⟩ := rx
      cases ry
      obtain ⟨j, h3, h4⟩ := atI_len (ys := ns.map V.int) (by simp) h1
      exact .inl ⟨a, _, i, .int n, rfl, rfl, vis_sqL q, h4 _ (by rw [List.getElem?_map, h3]; rfl), hq (.int n) _ H (.refl H) rfl h2⟩
    | _ => exact h.elim
  | str s =>
    cases y with
    | int i =>
      obtain ⟨c, h0, h1, h2⟩ := h
      cases rx
      cases ry
      exact .inr (.inr ⟨s, i, c, rfl, rfl, Nat.le_trans h0 LIM_le, h1, hq (.str ⟨#[c]⟩) _ H (.refl H) rfl h2⟩)
    | _ => exact h.elim
  | _ => cases y <;> exact h.elim
theorem Rp.flat {d : D} {v : V} (r : Rp Z A d v) (h : flatD d = true) : flatV v = true := by
  cases d <;> first | (cases h; done) | (cases r; rfl)
theorem RpL.flat : ∀ {ds : List D} {vs : List V}, RpL Z A ds vs → ds.all flatD = true → vs.all flatV = true
  | [], [], _, _ => rfl
  | d :: ds, v :: vs, r, h => by
    simp only [List.all_cons, Bool.and_eq_true] at h ⊢
    exact ⟨r.1.flat h.1, RpL.flat r.2 h.2⟩
  | [], _ :: _, r, _ => r.elim
  | _ :: _, [], r, _ => r.elim
theorem eqV_eqD {d e : D} {v u : V} (r : Rp Z A d v) (q : Rp Z A e u) (h : flatD d = true) (k : flatD e = true) : eqV v u = eqD d e := by
  cases d <;> first | (cases h; done) | skip
  all_goals (cases e <;> first | (cases k; done) | skip)
  all_goals (cases r; cases q; first | rfl | (simp [eqV, eqD]; done) | (simp only [eqV, eqD, dec_str]; rfl))
theorem any_eqV {x : D} {v : V} (r : Rp Z A x v) (h : flatD x = true) : ∀ {ds : List D} {vs : List V}, RpL Z A ds vs → ds.all flatD = true → inV v vs = ds.any fun y => eqD y x
  | [], [], _, _ => rfl
  | d :: ds, w :: vs, q, k => by
    simp only [List.all_cons, Bool.and_eq_true] at k
    have ih := any_eqV r h (ds := ds) (vs := vs) q.2 k.2
    unfold inV at ih ⊢
    rw [List.any_cons, List.any_cons, ih, eqV_eqD q.1 r k.1 h]
  | [], _ :: _, q, _ => q.elim
  | _ :: _, [], q, _ => q.elim
def rInAll (K : PySem.W.Frag) : R2 := fun x y H Q => rIn K false x y H Q ∨ ∃ i j, x = .str i ∧ y = .str j ∧ Q (.bl (!(Builtin.Str.occurrences j i 0 j.length 1).isEmpty)) H
theorem or_in : OpR X (compareOp .In) (rInAll X.K) := op_in_seq.or op_in_str
def rNotInAll (K : PySem.W.Frag) : R2 := fun x y H Q => rIn K true x y H Q ∨ ∃ i j, x = .str i ∧ y = .str j ∧ Q (.bl (!(!(Builtin.Str.occurrences j i 0 j.length 1).isEmpty))) H
theorem or_notIn : OpR X (compareOp .NotIn) (rNotInAll X.K) := op_notIn_seq.or op_notIn_str
theorem ok_in : OpOk Z (rInAll Z.K) oIn := by
  intro σ ρ H G x y v u Qd Q ok rx ry h hq
  cases y with
  | tup ds =>
    obtain ⟨a, vs, rfl, q, r⟩ := ry
    have h' : (flatD x = true ∧ ds.all flatD = true) ∧ Qd (.bl (ds.any fun y => eqD y x)) := by cases x <;> exact h
    refine .inl ⟨a, vs, rfl, .inr (vis_sqT q), rx.flat h'.1.1, r.flat h'.1.2, ?_⟩
    rw [if_neg (by decide), any_eqV rx h'.1.1 r h'.1.2]
    exact hq (.bl _) _ H (.refl H) rfl h'.2
  | lst ds =>
    obtain ⟨a, vs, rfl, q, r⟩ := ry
    have h' : (flatD x = true ∧ ds.all flatD = true) ∧ Qd (.bl (ds.any fun y => eqD y x)) := by cases x <;> exact h
    refine .inl ⟨a, vs, rfl, .inl (.of (vis_some.mp q).2), rx.flat h'.1.1, r.flat h'.1.2, ?_⟩
    rw [if_neg (by decide), any_eqV rx h'.1.1 r h'.1.2]
    exact hq (.bl _) _ H (.refl H) rfl h'.2
  | str s =>
    cases x with
    | str t =>
      cases rx
      cases ry
      exact .inr ⟨t, s, rfl, rfl, hq (.bl _) _ H (.refl H) rfl h⟩
    | _ => exact h.elim
  | _ => cases x <;> exact h.elim
theorem ok_notIn : OpOk Z (rNotInAll Z.K) oNotIn := by
  intro σ ρ H G x y v u Qd Q ok rx ry h hq
  cases y with
  | tup ds =>
    obtain ⟨a, vs, rfl, q, r⟩ := ry
    have h' : (flatD x = true ∧ ds.all flatD = true) ∧ Qd (.bl (!(ds.any fun y => eqD y x))) := by cases x <;> exact h
    refine .inl ⟨a, vs, rfl, .inr (vis_sqT q), rx.flat h'.1.1, r.flat h'.1.2, ?_⟩
    rw [if_pos rfl, any_eqV rx h'.1.1 r h'.1.2]
    exact hq (.bl _) _ H (.refl H) rfl h'.2
  | lst ds =>
    obtain ⟨a, vs, rfl, q, r⟩ := ry
    have h' : (flatD x = true ∧ ds.all flatD = true) ∧ Qd (.bl (!(ds.any fun y => eqD y x))) := by cases x <;> exact h
    refine .inl ⟨a, vs, rfl, .inl (.of (vis_some.mp q).2), rx.flat h'.1.1, r.flat h'.1.2, ?_⟩
    rw [if_pos rfl, any_eqV rx h'.1.1 r h'.1.2]
    exact hq (.bl _) _ H (.refl H) rfl h'.2
  | str s =>
    cases x with
    | str t =>
      cases rx
      cases ry
      exact .inr ⟨t, s, rfl, rfl, hq (.bl _) _ H (.refl H) rfl h⟩
    | _ => exact h.elim
  | _ => cases x <;> exact h.elim
theorem okD_mono : ∀ (n m : Nat) (d : D), n ≤ m → okD n d = true → okD m d = true
  | n, m, .non, _, _ => by cases m <;> rfl
  | n, m, .bl _, _, _ => by cases m <;> rfl
  | n, m, .int _, _, _ => by cases m <;> rfl
  | n, m, .str x, _, h => by
    have h' : PyData.strOk x = true := by cases n <;> exact h
    cases m <;> exact h'
  | 0, _, .tup ds, _, h => by simp [okD] at h
  | 0, _, .lst ds, _, h => by simp [okD] at h
  | n + 1, 0, .tup ds, k, _ => by omega
  | n + 1, 0, .lst ds, k, _ => by omega
  | n + 1, m + 1, .tup ds, k, h => by
    simp only [okD, List.all_eq_true] at h ⊢
    exact fun d hd => okD_mono n m d (by omega) (h d hd)
  | n + 1, m + 1, .lst ds, k, h => by
    simp only [okD, List.all_eq_true] at h ⊢
    exact fun d hd => okD_mono n m d (by omega) (h d hd)
  | n, _, .scr _, _, h => by cases n <;> simp [okD] at h
  | n, _, .glo _, _, h => by cases n <;> simp [okD] at h
  | n, _, .ty _, _, h => by cases n <;> simp [okD] at h
theorem any_py {x : D} (hx : bare x = true) : ∀ ds : List D, bareL ds = true → (D.pyL ds).any (fun z => PyData.eqv z x.py) = ds.any fun y => eqD y x
  | [], _ => rfl
  | d :: ds, h => by
    simp only [bareL, Bool.and_eq_true] at h
    simp only [D.pyL, List.any_cons, eqD_py d x h.1 hx, any_py hx ds h.2]
theorem ok_inL : OpOk Z (rInD Z.K) oInL := by
  intro σ ρ H G x y v u Qd Q ok rx ry h hq
  cases y with
  | lst ds =>
    obtain ⟨⟨h1, h2⟩, h3⟩ := h
    have hx := okD_mono 50 60 x (by decide) h1
    have hd : okD 60 (.lst ds) = true := by
      simp only [okD, List.all_eq_true] at h2 ⊢
      exact fun d q => okD_mono 50 59 d (by decide) (h2 d q)
    have b1 := okD_bare _ _ hx
    have b2 := okD_bare _ _ hd
    refine ⟨x.py, D.pyL ds, Rp.dp x v b1 rx, Rp.dp (.lst ds) u b2 ry, okD_shaped hx, okD_shaped hd, ?_⟩
    rw [any_py b1 ds (by simpa [bare] using b2)]
    exact hq (.bl _) _ H (.refl H) rfl h3
  | _ => exact h.elim
theorem ok_notInL : OpOk Z (rNotInD Z.K) oNotInL := by
  intro σ ρ H G x y v u Qd Q ok rx ry h hq
  cases y with
  | lst ds =>
    obtain ⟨⟨h1, h2⟩, h3⟩ := h
    have hx := okD_mono 50 60 x (by decide) h1
    have hd : okD 60 (.lst ds) = true := by
      simp only [okD, List.all_eq_true] at h2 ⊢
      exact fun d q => okD_mono 50 59 d (by decide) (h2 d q)
    have b1 := okD_bare _ _ hx
    have b2 := okD_bare _ _ hd
    refine ⟨x.py, D.pyL ds, Rp.dp x v b1 rx, Rp.dp (.lst ds) u b2 ry, okD_shaped hx, okD_shaped hd, ?_⟩
    rw [any_py b1 ds (by simpa [bare] using b2)]
    exact hq (.bl _) _ H (.refl H) rfl h3
  | _ => exact h.elim
end
/-! ### chains of two comparisons; the one-place operators -/
def dChain (f g : O2) (a b c : DE) : DE := fun ρ Q E => a ρ (fun x ρ1 => b ρ1 (fun y ρ2 => f x y fun z => ∃ k, z = .bl k ∧
  if k = true then c ρ2 (fun w ρ3 => g y w fun r => Q r ρ3) E else Q (.bl false) ρ2) E) E
def dUn (f : D → (D → Prop) → Prop) (a : DE) : DE := fun ρ Q E => a ρ (fun x ρ1 => f x fun z => Q z ρ1) E
def oNeg : D → (D → Prop) → Prop
  | .int i, Q => Q (.int (-i))
  | _, _ => False
section
variable {X : Cx} {Z : Zx} {W : WX}
theorem Rp.bl_of {H : Hp} {k : Bool} {v : V} (r : Rp Z H (.bl k) v) : v = .bl k := r
theorem up_chain [GoodJ Z] {r r' : R2} {f g : O2} (kf : OpOk Z r f) (kg : OpOk Z r' g) {a b c : DE} (σ : L2.St) (H : Hp) (Q : VK) (h : upE Z W (dChain f g a b c) σ H Q) : tChain r r' (upE Z W a) (upE Z W b) (upE Z W c) σ H Q := by
  obtain ⟨ρ, G, Qd, E, ok, h, hq, hx⟩ := h
  refine ⟨ρ, G, _, E, ok, h, fun x v ρ1 H1 ok1 s1 r1 h1 => ?_, hx⟩
  refine ⟨ρ1, G, _, E, ok1, h1, fun y u ρ2 H2 ok2 s2 r2 h2 => ?_, hx.step s1⟩
  refine kf σ ρ2 H2 G x y v u _ _ ok2 (r1.sub s2.vis) r2 h2 fun d w H3 sm r3 q3 => ?_
  obtain ⟨k, ek, q⟩ := q3
  subst ek
  refine ⟨k, r3, ?_⟩
  have s3 : Stp Z σ ρ H σ ρ2 H3 := (s1.trans s2).trans (.ext sm)
  cases k with
  | false =>
    rw [if_neg (by decide)] at q ⊢
    exact hq (.bl false) _ ρ2 H3 (ok2.ext sm) s3 rfl q
  | true =>
    rw [if_pos rfl] at q ⊢
    refine ⟨ρ2, G, _, E, ok2.ext sm, q, fun z w2 ρ4 H4 ok4 s4 r4 h4 => ?_, hx.step s3⟩
    exact kg σ ρ4 H4 G y z u w2 _ Q ok4 ((r2.sub (vis_ext sm)).sub s4.vis) r4 h4 fun d w H5 sm5 r5 q5 => hq d w ρ4 H5 (ok4.ext sm5) ((s3.trans s4).trans (.ext sm5)) r5 q5
theorem de_chain [GoodJ Z] {op op' : CmpOp} {r r' : R2} {f g : O2} (kf : OpOk Z r f) (kg : OpOk Z r' g) {a b c : Expr} {ta tb tc : DE} {pos : Pos} (ho : OpR X (compareOp op) r) (ho' : OpR X (compareOp op') r')
    (ha : PE X a (upE Z W ta)) (hb : PE X b (upE Z W tb)) (hc : PE X c (upE Z W tc)) (hm : lastMarks [op, op'] [b, c] = false := by rfl) : PE X (.Compare a [op, op'] [b, c] pos) (upE Z W (dChain f g ta tb tc)) :=
  PE.wk (pe_chain ho ho' ha hb hc hm) (up_chain kf kg)
theorem de_neg {a : Expr} {ta : DE} {pos : Pos} (ha : PE X a (upE Z W ta)) : PE X (.UnaryOp .USub a pos) (upE Z W (dUn oNeg ta)) := PE.wk (pe_un un_neg ha) fun σ H Q ⟨ρ, G, Qd, E, ok, h, hq, hx⟩ => by
  refine ⟨ρ, G, _, E, ok, h, fun x v ρ1 H1 ok1 s1 r1 h1 => ?_, hx⟩
  cases x with
  | int i =>
    cases r1
    exact ⟨i, rfl, hq (.int (-i)) _ ρ1 H1 ok1 s1 rfl h1⟩
  | _ => exact h1.elim
/-! ### tests; and, or, not; a if c else b -/
def dTst (t : DE) : DT := fun ρ Q E => t ρ (fun d ρ' => ∃ b, d = .bl b ∧ Q b ρ') E
def tAndD (t u : DT) : DT := fun ρ Q E => t ρ (fun c ρ1 => if c = true then u ρ1 Q E else Q false ρ1) E
def tOrD (t u : DT) : DT := fun ρ Q E => t ρ (fun c ρ1 => if c = true then Q true ρ1 else u ρ1 Q E) E
def tNotD (t : DT) : DT := fun ρ Q E => t ρ (fun c ρ1 => Q (!c) ρ1) E
def dAnd (a b : DE) : DE := fun ρ Q E => a ρ (fun x ρ1 => ∃ c, x = .bl c ∧ if c = true then b ρ1 Q E else Q (.bl false) ρ1) E
def dOr (a b : DE) : DE := fun ρ Q E => a ρ (fun x ρ1 => ∃ c, x = .bl c ∧ if c = true then Q (.bl true) ρ1 else b ρ1 Q E) E
def dNot (a : DE) : DE := fun ρ Q E => a ρ (fun x ρ1 => ∃ c, x = .bl c ∧ Q (.bl (!c)) ρ1) E
def dIf (t : DT) (a b : DE) : DE := fun ρ Q E => t ρ (fun c ρ1 => if c = true then a ρ1 Q E else b ρ1 Q E) E
theorem up_tst {t : DE} (σ : L2.St) (H : Hp) (Q : Bool → Hp → Prop) (h : upT Z W (dTst t) σ H Q) : tB (upE Z W t) σ H Q := by
  obtain ⟨ρ, G, Qd, E, ok, h, hq, hx⟩ := h
  refine ⟨ρ, G, _, E, ok, h, fun x v ρ1 H1 ok1 s1 r1 h1 => ?_, hx⟩
  obtain ⟨b, e, q⟩ := h1
  subst e
  exact ⟨b, r1, hq b ρ1 H1 ok1 s1 q⟩
theorem dt_val {e : Expr} {t : DE} (h : PE X e (upE Z W t)) (he : ∀ whole, isTrue e X.env whole = (do let v ← whole; standAt e.pos; holding [v] (truthy v)) := by intro _; rfl) : PT X e (upT Z W (dTst t)) := PT.wk (pt_val h he) up_tst
theorem dt_cmp [GoodJ Z] {op : CmpOp} {r : R2} {f : O2} (k : OpOk Z r f) {a b : Expr} {ta tb : DE} {pos : Pos} (ho : OpR X (compareOp op) r) (ha : PE X a (upE Z W ta)) (hb : PE X b (upE Z W tb)) (hm : behindInMarks op b = false) :
    PT X (.Compare a [op] [b] pos) (upT Z W (dTst (dOp f ta tb))) := PT.wk (pt_cmpR ho ha hb hm) fun σ H Q ⟨ρ, G, Qd, E, ok, h, hq, hx⟩ =>
  up_op k σ H _ ⟨ρ, G, _, E, ok, h, fun x v ρ1 H1 ok1 s1 r1 ⟨b, e, q⟩ => by subst e; exact ⟨b, r1, hq b ρ1 H1 ok1 s1 q⟩, hx⟩
theorem dt_chain [GoodJ Z] {op op' : CmpOp} {r r' : R2} {f g : O2} (kf : OpOk Z r f) (kg : OpOk Z r' g) {a b c : Expr} {ta tb tc : DE} {pos : Pos} (ho : OpR X (compareOp op) r) (ho' : OpR X (compareOp op') r')
    (ha : PE X a (upE Z W ta)) (hb : PE X b (upE Z W tb)) (hc : PE X c (upE Z W tc)) (hm : lastMarks [op, op'] [b, c] = false := by rfl) : PT X (.Compare a [op, op'] [b, c] pos) (upT Z W (dTst (dChain f g ta tb tc))) :=
  PT.wk (pt_chain ho ho' ha hb hc hm) fun σ H Q ⟨ρ, G, Qd, E, ok, h, hq, hx⟩ =>
  up_chain kf kg σ H _ ⟨ρ, G, _, E, ok, h, fun x v ρ1 H1 ok1 s1 r1 ⟨b, e, q⟩ => by subst e; exact ⟨b, r1, hq b ρ1 H1 ok1 s1 q⟩, hx⟩
theorem dt_not {a : Expr} {ta : DT} {pos : Pos} (ha : PT X a (upT Z W ta)) : PT X (.UnaryOp .Not a pos) (upT Z W (tNotD ta)) := PT.wk (pt_not ha) fun σ H Q ⟨ρ, G, Qd, E, ok, h, hq, hx⟩ =>
  ⟨ρ, G, _, E, ok, h, fun b ρ1 H1 ok1 s1 h1 => hq (!b) ρ1 H1 ok1 s1 h1, hx⟩
theorem dw_and1 {a : Expr} {ta : DT} {pos : Pos} (ha : PT X a (upT Z W ta)) : PW X (.BoolOp .And [a] pos) (upT Z W ta) := pw_and1 ha
theorem dw_or1 {a : Expr} {ta : DT} {pos : Pos} (ha : PT X a (upT Z W ta)) : PW X (.BoolOp .Or [a] pos) (upT Z W ta) := pw_or1 ha
theorem dw_and {a b : Expr} {rest : List Expr} {ta tb : DT} {pos : Pos} (ha : PT X a (upT Z W ta)) (hb : PW X (.BoolOp .And (b :: rest) pos) (upT Z W tb)) : PW X (.BoolOp .And (a :: b :: rest) pos) (upT Z W (tAndD ta tb)) :=
  PW.wk (pw_and ha hb) fun σ H Q ⟨ρ, G, Qd, E, ok, h, hq, hx⟩ => by
    refine ⟨ρ, G, _, E, ok, h, fun b ρ1 H1 ok1 s1 h1 => ?_, hx⟩
    cases b with
    | true =>
      rw [if_pos rfl] at h1 ⊢
      exact ⟨ρ1, G, Qd, E, ok1, h1, fun c ρ2 H2 ok2 s2 q => hq c ρ2 H2 ok2 (s1.trans s2) q, hx.step s1⟩
    | false =>
      rw [if_neg (by decide)] at h1 ⊢
      exact hq false ρ1 H1 ok1 s1 h1
theorem dw_or {a b : Expr} {rest : List Expr} {ta tb : DT} {pos : Pos} (ha : PT X a (upT Z W ta)) (hb : PW X (.BoolOp .Or (b :: rest) pos) (upT Z W tb)) : PW X (.BoolOp .Or (a :: b :: rest) pos) (upT Z W (tOrD ta tb)) :=
  PW.wk (pw_or ha hb) fun σ H Q ⟨ρ, G, Qd, E, ok, h, hq, hx⟩ => by
    refine ⟨ρ, G, _, E, ok, h, fun b ρ1 H1 ok1 s1 h1 => ?_, hx⟩
    cases b with
    | false =>
      rw [if_neg (by decide)] at h1 ⊢
      exact ⟨ρ1, G, Qd, E, ok1, h1, fun c ρ2 H2 ok2 s2 q => hq c ρ2 H2 ok2 (s1.trans s2) q, hx.step s1⟩
    | true =>
      rw [if_pos rfl] at h1 ⊢
      exact hq true ρ1 H1 ok1 s1 h1
theorem de_one {a : Expr} {op : BoolOp} {ta : DE} {pos : Pos} (ha : PE X a (upE Z W ta)) : PE X (.BoolOp op [a] pos) (upE Z W ta) := pe_one ha
theorem de_and {a b : Expr} {rest : List Expr} {ta tb : DE} {pos : Pos} (ha : PE X a (upE Z W ta)) (hb : PE X (.BoolOp .And (b :: rest) pos) (upE Z W tb)) : PE X (.BoolOp .And (a :: b :: rest) pos) (upE Z W (dAnd ta tb)) :=
  PE.wk (pe_and ha hb) fun σ H Q ⟨ρ, G, Qd, E, ok, h, hq, hx⟩ => by
    refine ⟨ρ, G, _, E, ok, h, fun x v ρ1 H1 ok1 s1 r1 h1 => ?_, hx⟩
    obtain ⟨c, e, q⟩ := h1
    subst e
    refine ⟨c, r1, ?_⟩
    cases c with
    | true =>
      rw [if_pos rfl] at q ⊢
      exact ⟨ρ1, G, Qd, E, ok1, q, fun d w ρ2 H2 ok2 s2 r2 q => hq d w ρ2 H2 ok2 (s1.trans s2) r2 q, hx.step s1⟩
    | false =>
      rw [if_neg (by decide)] at q ⊢
      exact hq (.bl false) _ ρ1 H1 ok1 s1 rfl q
theorem de_or {a b : Expr} {rest : List Expr} {ta tb : DE} {pos : Pos} (ha : PE X a (upE Z W ta)) (hb : PE X (.BoolOp .Or (b :: rest) pos) (upE Z W tb)) : PE X (.BoolOp .Or (a :: b :: rest) pos) (upE Z W (dOr ta tb)) :=
  PE.wk (pe_or ha hb) fun σ H Q ⟨ρ, G, Qd, E, ok, h, hq, hx⟩ => by
    refine ⟨ρ, G, _, E, ok, h, fun x v ρ1 H1 ok1 s1 r1 h1 => ?_, hx⟩
    obtain ⟨c, e, q⟩ := h1
    subst e
    refine ⟨c, r1, ?_⟩
    cases c with
    | false =>
      rw [if_neg (by decide)] at q ⊢
      exact ⟨ρ1, G, Qd, E, ok1, q, fun d w ρ2 H2 ok2 s2 r2 q => hq d w ρ2 H2 ok2 (s1.trans s2) r2 q, hx.step s1⟩
    | true =>
      rw [if_pos rfl] at q ⊢
      exact hq (.bl true) _ ρ1 H1 ok1 s1 rfl q
theorem de_not {a : Expr} {ta : DE} {pos : Pos} (ha : PE X a (upE Z W ta)) : PE X (.UnaryOp .Not a pos) (upE Z W (dNot ta)) :=
  PE.wk (pe_not ha) fun σ H Q ⟨ρ, G, Qd, E, ok, h, hq, hx⟩ => by
    refine ⟨ρ, G, _, E, ok, h, fun x v ρ1 H1 ok1 s1 r1 h1 => ?_, hx⟩
    obtain ⟨c, e, q⟩ := h1
    subst e
    exact ⟨c, r1, hq (.bl (!c)) _ ρ1 H1 ok1 s1 rfl q⟩
theorem de_ifE {c a b : Expr} {tc : DT} {ta tb : DE} {pos : Pos} (hc : PT X c (upT Z W tc)) (ha : PE X a (upE Z W ta)) (hb : PE X b (upE Z W tb)) : PE X (.IfExp c a b pos) (upE Z W (dIf tc ta tb)) :=
  PE.wk (pe_ifExp hc ha hb) fun σ H Q ⟨ρ, G, Qd, E, ok, h, hq, hx⟩ => by
    refine ⟨ρ, G, _, E, ok, h, fun b ρ1 H1 ok1 s1 h1 => ?_, hx⟩
    cases b with
    | true =>
      rw [if_pos rfl] at h1 ⊢
      exact ⟨ρ1, G, Qd, E, ok1, h1, fun d w ρ2 H2 ok2 s2 r2 q => hq d w ρ2 H2 ok2 (s1.trans s2) r2 q, hx.step s1⟩
    | false =>
      rw [if_neg (by decide)] at h1 ⊢
      exact ⟨ρ1, G, Qd, E, ok1, h1, fun d w ρ2 H2 ok2 s2 r2 q => hq d w ρ2 H2 ok2 (s1.trans s2) r2 q, hx.step s1⟩
end
/-! ### slices -/
abbrev DO := Rho → (Option Int → Rho → Prop) → EQ → Prop
def upO (Z : Zx) (W : WX) (t : DO) : TO := fun σ H Q => ∃ ρ G Qd E, Ok Z σ ρ H G ∧ t ρ Qd E ∧
  (∀ b ρ' H', Ok Z σ ρ' H' G → Stp Z σ ρ H σ ρ' H' → Qd b ρ' → Q b H') ∧ XPE Z W σ ρ H G E
def oNo : DO := fun ρ Q _ => Q none ρ
def oSome (t : DE) : DO := fun ρ Q E => t ρ (fun d ρ' => ∃ i, d = .int i ∧ Q (some i) ρ') E
/-- xs[lo:hi] of plain lists -/
def cut {α : Type} (xs : List α) (lo hi : Option Int) : List α := (xs.drop (HT.sIx xs.length 0 lo)).take (HT.sIx xs.length xs.length hi - HT.sIx xs.length 0 lo)
def oSl : D → Option Int → Option Int → (D → Prop) → Prop
  | .tup ds, lo, hi, Q => Q (.tup (cut ds lo hi))
  | .lst ds, lo, hi, Q => Q (.lst (cut ds lo hi))
  | _, _, _, _ => False
def dSl (t : DE) (lo hi : DO) : DE := fun ρ Q E => t ρ (fun x ρ1 => lo ρ1 (fun l ρ2 => hi ρ2 (fun h ρ3 => oSl x l h fun z => Q z ρ3) E) E) E
section
variable {X : Cx} {Z : Zx} {W : WX}
theorem do_none : PO X none (upO Z W oNo) := ⟨fun pins s σ H Q I ⟨ρ, G, Qd, E, ok, h, hq, hx⟩ => po_none.run pins s σ H Q I (hq none ρ H ok .refl h)⟩
theorem do_some {e : Expr} {t : DE} (h : PE X e (upE Z W t)) : PO X (some e) (upO Z W (oSome t)) := ⟨fun pins s σ H Q I ⟨ρ, G, Qd, E, ok, hh, hq, hx⟩ => (po_some h).run pins s σ H Q I (by
  refine ⟨ρ, G, _, E, ok, hh, fun x v ρ1 H1 ok1 s1 r1 h1 => ?_, hx⟩
  obtain ⟨i, e, q⟩ := h1
  subst e
  exact ⟨i, r1, hq (some i) ρ1 H1 ok1 s1 q⟩)⟩
def rSlAll (K : PySem.W.Frag) : V → Option Int → Option Int → Hp → VK → Prop := fun x lo hi H Q => rSlL K x lo hi H Q ∨ rSlA K x lo hi H Q
theorem or_sl : SlR X (rSlAll X.K) := sl_list.or sl_tupA
theorem RpL.cut {A : Hp} {ds : List D} {vs : List V} (r : RpL Z A ds vs) (lo hi : Option Int) : RpL Z A (TS.cut ds lo hi) (cutV vs lo hi) := by
  unfold TS.cut cutV
  rw [r.len]
  exact (r.drop _).take _
theorem sIx_le' (n d : Nat) (hd : d ≤ n) (o : Option Int) : HT.sIx n d o ≤ n := HT.sIx_le n d hd o
theorem cut_whole {α : Type} {xs : List α} {lo hi : Option Int} (h : HT.sIx xs.length 0 lo = 0 ∧ HT.sIx xs.length xs.length hi = xs.length) : cut xs lo hi = xs := by
  unfold cut
  rw [h.1, h.2]
  simp
theorem de_slice [GoodJ Z] [F : Fit X Z] {e : Expr} {lo hi : Option Expr} {t : DE} {tl th : DO} {pos p2 : Pos} (he : PE X e (upE Z W t)) (hl : PO X lo (upO Z W tl)) (hh : PO X hi (upO Z W th)) :
    PE X (.Subscript e (.Slice lo hi none p2) pos) (upE Z W (dSl t tl th)) := PE.wk (pe_slice or_sl he hl hh) fun σ H Q ⟨ρ, G, Qd, E, ok, h, hq, hx⟩ => by
  refine ⟨ρ, G, _, E, ok, h, fun x v ρ1 H1 ok1 s1 r1 h1 => ?_, hx⟩
  refine ⟨ρ1, G, _, E, ok1, h1, fun l ρ2 H2 ok2 s2 h2 => ?_, hx.step s1⟩
  refine ⟨ρ2, G, _, E, ok2, h2, fun u ρ3 H3 ok3 s3 h3 => ?_, hx.step (s1.trans s2)⟩
  have r3 := (r1.sub s2.vis).sub s3.vis
  have st := (s1.trans s2).trans s3
  rw [F.K]
  cases x with
  | tup ds =>
    obtain ⟨a, vs, rfl, q, r⟩ := r3
    refine .inr ⟨a, vs, rfl, vis_sqT q, fun hw => ?_, fun _ p hp => ?_⟩
    · have e : cut ds l u = ds := cut_whole (by rw [r.len]; exact hw)
      have h4 : Qd (.tup (cut ds l u)) ρ3 := h3
      rw [e] at h4
      exact hq (.tup ds) _ ρ3 H3 ok3 st ⟨a, vs, rfl, q, r⟩ h4
    · exact hq (.tup (cut ds l u)) _ ρ3 _ (ok3.ext (same_upd hp)) (st.trans (.ext (same_upd hp))) ⟨p, _, rfl, .of (ok3.freshV hp), (r.cut l u).sub (vis_ext (same_upd hp))⟩ h3
  | lst ds =>
    obtain ⟨a, vs, rfl, q, r⟩ := r3
    refine .inl ⟨a, vs, rfl, .of (vis_some.mp q).2, fun p hp => ?_⟩
    exact hq (.lst (cut ds l u)) _ ρ3 _ (ok3.ext (same_upd hp)) (st.trans (.ext (same_upd hp))) ⟨p, _, rfl, ok3.freshV hp, (r.cut l u).sub (vis_ext (same_upd hp))⟩ h3
  | _ => exact h3.elim
end
end TS
set_option Elab.async false
set_option linter.all false
set_option maxRecDepth 100000
set_option maxHeartbeats 4000000
set_option exponentiation.threshold 10000
namespace TS
open PySem PySem.Spec PyProof.Rows L2
/-! ### built-in functions and types, called -/
abbrev OC := List D → (D → Prop) → Prop
def CallOk (Z : Zx) (r : List V → Hp → VK → Prop) (f : OC) : Prop := ∀ (σ : L2.St) (ρ : Rho) (H : Hp) (G : Addr → Prop) (ds : List D) (vs : List V) (Qd : D → Prop) (Q : VK), Ok Z σ ρ H G → RpL Z (vis H (Hid ρ σ G)) ds vs → f ds Qd →
  (∀ d w H', Same H H' → Rp Z (vis H' (Hid ρ σ G)) d w → Qd d → Q w H') → r vs H Q
def dCB (f : OC) (t : DA) : DE := fun ρ Q E => t ρ (fun ds ρ1 => f ds fun d => Q d ρ1) E
section
variable {X : Cx} {Z : Zx} {W : WX}
theorem up_cb [GoodJ Z] {r : List V → Hp → VK → Prop} {f : OC} (k : CallOk Z r f) {t : DA} (σ : L2.St) (H : Hp) (Q : VK) (h : upE Z W (dCB f t) σ H Q) : tCB r (upA Z W t) σ H Q := by
  obtain ⟨ρ, G, Qd, E, ok, h, hq, hx⟩ := h
  refine ⟨ρ, G, _, E, ok, h, fun ds vs ρ1 H1 ok1 s1 r1 h1 => ?_, hx⟩
  exact k σ ρ1 H1 G ds vs _ Q ok1 r1 h1 fun d w H2 sm r2 q2 => hq d w ρ1 H2 (ok1.ext sm) (s1.trans (.ext sm)) r2 q2
theorem de_callB [GoodJ Z] [F : Fit X Z] {x : Str} {id : String} {e : Expr} {es : List Expr} {r : List V → Hp → VK → Prop} {f : OC} (k : CallOk Z r f) {t : DA} {p pos : Pos} (hc : CallR X (.builtin id) r) (hm : Z.mg x = none) (hv : bootBuiltins x = some (.builtin id)) (ha : PA X (e :: es) (upA Z W t)) (hg : Gl X x := by rfl)
    (hn : x ≠ "__name__" := by decide) (hdb : (x == ("__debug__" : Str)) = false := by decide) (he : starEach (e :: es) X.env = (false, eval e X.env) :: starEach es X.env := by rfl) (hpl : (backTo pos (starEach es X.env)).any (·.1) = false := by rfl) :
    PE X (.Call (.Name x p) (e :: es) [] pos) (upE Z W (dCB f t)) := PE.wk (pe_callB hc hg (by rw [F.mg]; exact hm) hv ha hn hdb he hpl) (up_cb k)
theorem de_callTy [GoodJ Z] [F : Fit X Z] {x : Str} {T : String} {e : Expr} {es : List Expr} {r : List V → Hp → VK → Prop} {f : OC} (k : CallOk Z r f) {t : DA} {p pos : Pos} (hc : CallR X (.type T) r) (hm : Z.mg x = none) (hv : bootBuiltins x = some (.type T)) (ha : PA X (e :: es) (upA Z W t)) (hg : Gl X x := by rfl)
    (hn : x ≠ "__name__" := by decide) (hdb : (x == ("__debug__" : Str)) = false := by decide) (he : starEach (e :: es) X.env = (false, eval e X.env) :: starEach es X.env := by rfl) (hpl : (backTo pos (starEach es X.env)).any (·.1) = false := by rfl) :
    PE X (.Call (.Name x p) (e :: es) [] pos) (upE Z W (dCB f t)) := PE.wk (pe_callTy hc hg (by rw [F.mg]; exact hm) hv ha hn hdb he hpl) (up_cb k)
/-- the name of a built-in type as a value -/
theorem de_tyN [F : Fit X Z] {x : Str} {n : String} {pos : Pos} (hm : Z.mg x = none) (hv : bootBuiltins x = some (.type n)) (hg : Gl X x := by rfl) (hn : x ≠ "__name__" := by decide) (hd : (x == ("__debug__" : Str)) = false := by decide) :
    PE X (.Name x pos) (upE Z W (dC (.ty n))) := PE.wk (pe_bltn (v := .ty n) hg (by rw [F.mg]; exact hm) hv rfl hn hd) (up_c fun _ => rfl)
end
def fLen : OC
  | [.tup ds], Q => Q (.int ds.length)
  | [.lst ds], Q => Q (.int ds.length)
  | [.scr ns], Q => Q (.int ns.length)
  | [.str x], Q => x.length ≤ LIM ∧ Q (.int x.length)
  | _, _ => False
def fInt : OC
  | [.int i], Q => Q (.int i)
  | [.bl b], Q => Q (.int (if b then 1 else 0))
  | _, _ => False
def fAbs : OC
  | [.int i], Q => Q (.int (if i < 0 then -i else i))
  | _, _ => False
def fMax2 : OC
  | [.int i, .int j], Q => Q (.int (if j > i then j else i))
  | _, _ => False
def fMin2 : OC
  | [.int i, .int j], Q => Q (.int (if j < i then j else i))
  | _, _ => False
def fStrI : OC
  | [.int i], Q => i.natAbs.log2 < 1920 ∧ Q (.str (toString i))
  | _, _ => False
def fTuple : OC
  | [.tup ds], Q => Q (.tup ds)
  | [.lst ds], Q => Q (.tup ds)
  | _, _ => False
def fList : OC
  | [.tup ds], Q => Q (.lst ds)
  | [.lst ds], Q => Q (.lst ds)
  | _, _ => False
def fSum : OC
  | [.lst ds], Q => ∃ ns : List Int, ds = ns.map D.int ∧ Q (.int ns.sum)
  | _, _ => False
/-- isinstance of data against int, bool, str, tuple, list -/
def tyOf : D → Option String
  | .non => some "NoneType"
  | .bl _ => some "bool"
  | .int _ => some "int"
  | .str _ => some "str"
  | .tup _ => some "tuple"
  | .lst _ => some "list"
  | _ => none
def tyNames : List String := ["int", "bool", "str", "tuple", "list"]
def isTy (d : D) (n : String) : Option Bool := match tyOf d with
  | some t => if n ∈ tyNames then some (t == n || (t == "bool" && n == "int")) else none
  | none => none
theorem kit_all : ∀ t ∈ ("NoneType" :: tyNames), ∀ n ∈ tyNames, kitB t n = some (t == n || (t == "bool" && n == "int")) := by decide +kernel
theorem tyOf_mem {d : D} {t : String} (h : tyOf d = some t) : t ∈ ("NoneType" :: tyNames) := by
  cases d <;> first | (cases h; decide) | cases h
def fIsi : OC
  | [x, .ty n], Q => ∃ b, isTy x n = some b ∧ Q (.bl b)
  | _, _ => False
section
variable {X : Cx} {Z : Zx}
theorem RpL.one {A : Hp} {d : D} {vs : List V} (r : RpL Z A [d] vs) : ∃ v, vs = [v] ∧ Rp Z A d v := by
  match vs, r with
  | [v], r => exact ⟨v, rfl, r.1⟩
  | [], r => exact r.elim
  | _ :: _ :: _, r => exact r.2.elim
theorem RpL.two {A : Hp} {d e : D} {vs : List V} (r : RpL Z A [d, e] vs) : ∃ v u, vs = [v, u] ∧ Rp Z A d v ∧ Rp Z A e u := by
  match vs, r with
  | [v, u], r => exact ⟨v, u, rfl, r.1, r.2.1⟩
  | [], r => exact r.elim
  | [_], r => exact r.2.elim
  | _ :: _ :: _ :: _, r => exact r.2.2.elim
theorem cb_len : CallOk Z (fun xs H Q => ∃ x n, xs = [x] ∧ LenV Z.K x H n ∧ Q (.int n) H) fLen := by
  intro σ ρ H G ds vs Qd Q ok r h hq
  unfold fLen at h
  split at h
  · obtain ⟨v, rfl, a, ws, rfl, q, r1⟩ := r.one
    exact ⟨_, _, rfl, .inr ⟨ws, vis_sqT q, r1.len⟩, hq (.int _) _ H (.refl H) rfl h⟩
  · obtain ⟨v, rfl, a, ws, rfl, q, r1⟩ := r.one
    exact ⟨_, _, rfl, .inl ⟨ws, .of (vis_some.mp q).2, r1.len⟩, hq (.int _) _ H (.refl H) rfl h⟩
  · obtain ⟨v, rfl, a, rfl, q⟩ := r.one
    exact ⟨_, _, rfl, .inl ⟨_, vis_sqL q, (List.length_map _).symm⟩, hq (.int _) _ H (.refl H) rfl h⟩
  · obtain ⟨v, rfl, e⟩ := r.one
    cases e
    exact ⟨_, _, rfl, ⟨Nat.le_trans h.1 LIM_le, rfl⟩, hq (.int _) _ H (.refl H) rfl h.2⟩
  · exact h.elim
theorem cb_int : CallOk Z (fun xs H Q => (∃ i, xs = [.int i] ∧ Q (.int i) H) ∨ ∃ k, xs = [.bl k] ∧ Q (.int (if k then 1 else 0)) H) fInt := by
  intro σ ρ H G ds vs Qd Q ok r h hq
  unfold fInt at h
  split at h
  · obtain ⟨v, rfl, e⟩ := r.one
    cases e
    exact .inl ⟨_, rfl, hq (.int _) _ H (.refl H) rfl h⟩
  · obtain ⟨v, rfl, e⟩ := r.one
    cases e
    exact .inr ⟨_, rfl, hq (.int _) _ H (.refl H) rfl h⟩
  · exact h.elim
theorem cb_abs : CallOk Z (fun xs H Q => ∃ i, xs = [.int i] ∧ Q (.int (if i < 0 then -i else i)) H) fAbs := by
  intro σ ρ H G ds vs Qd Q ok r h hq
  unfold fAbs at h
  split at h
  · obtain ⟨v, rfl, e⟩ := r.one
    cases e
    exact ⟨_, rfl, hq (.int _) _ H (.refl H) rfl h⟩
  · exact h.elim
theorem cb_max2 : CallOk Z (fun xs H Q => ∃ i j, xs = [.int i, .int j] ∧ Q (.int (if j > i then j else i)) H) fMax2 := by
  intro σ ρ H G ds vs Qd Q ok r h hq
  unfold fMax2 at h
  split at h
  · obtain ⟨v, u, rfl, e1, e2⟩ := r.two
    cases e1
    cases e2
    exact ⟨_, _, rfl, hq (.int _) _ H (.refl H) rfl h⟩
  · exact h.elim
theorem cb_min2 : CallOk Z (fun xs H Q => ∃ i j, xs = [.int i, .int j] ∧ Q (.int (if j < i then j else i)) H) fMin2 := by
  intro σ ρ H G ds vs Qd Q ok r h hq
  unfold fMin2 at h
  split at h
  · obtain ⟨v, u, rfl, e1, e2⟩ := r.two
    cases e1
    cases e2
    exact ⟨_, _, rfl, hq (.int _) _ H (.refl H) rfl h⟩
  · exact h.elim
theorem cb_strI : CallOk Z (fun xs H Q => ∃ i, xs = [.int i] ∧ i.natAbs.log2 < 1920 ∧ Q (.str (toString i)) H) fStrI := by
  intro σ ρ H G ds vs Qd Q ok r h hq
  unfold fStrI at h
  split at h
  · obtain ⟨v, rfl, e⟩ := r.one
    cases e
    exact ⟨_, rfl, h.1, hq (.str _) _ H (.refl H) rfl h.2⟩
  · exact h.elim
theorem cb_tuple : CallOk Z (fun xs H Q => ∃ p ys, xs = [.ref p] ∧ ((SqL Z.K H p ys ∧ ∀ l, H l = none → Q (.ref l) (upd H l (.tup ys))) ∨ (SqT Z.K H p ys ∧ Q (.ref p) H))) fTuple := by
  intro σ ρ H G ds vs Qd Q ok r h hq
  unfold fTuple at h
  split at h
  · obtain ⟨v, rfl, a, ws, rfl, q, r1⟩ := r.one
    exact ⟨a, ws, rfl, .inr ⟨vis_sqT q, hq (.tup _) _ H (.refl H) ⟨a, ws, rfl, q, r1⟩ h⟩⟩
  · obtain ⟨v, rfl, a, ws, rfl, q, r1⟩ := r.one
    exact ⟨a, ws, rfl, .inl ⟨.of (vis_some.mp q).2, fun p hp => hq (.tup _) _ _ (same_upd hp) ⟨p, ws, rfl, .of (ok.freshV hp), r1.sub (vis_ext (same_upd hp))⟩ h⟩⟩
  · exact h.elim
theorem cb_list : CallOk Z (fun xs H Q => ∃ p ys, xs = [.ref p] ∧ (SqL Z.K H p ys ∨ SqT Z.K H p ys) ∧ ∀ l, H l = none → Q (.ref l) (upd H l (.lst ys))) fList := by
  intro σ ρ H G ds vs Qd Q ok r h hq
  unfold fList at h
  split at h
  · obtain ⟨v, rfl, a, ws, rfl, q, r1⟩ := r.one
    exact ⟨a, ws, rfl, .inr (vis_sqT q), fun p hp => hq (.lst _) _ _ (same_upd hp) ⟨p, ws, rfl, ok.freshV hp, r1.sub (vis_ext (same_upd hp))⟩ h⟩
  · obtain ⟨v, rfl, a, ws, rfl, q, r1⟩ := r.one
    exact ⟨a, ws, rfl, .inl (.of (vis_some.mp q).2), fun p hp => hq (.lst _) _ _ (same_upd hp) ⟨p, ws, rfl, ok.freshV hp, r1.sub (vis_ext (same_upd hp))⟩ h⟩
  · exact h.elim
theorem RpL.ints {A : Hp} : ∀ {ns : List Int} {vs : List V}, RpL Z A (ns.map D.int) vs → vs = ns.map V.int
  | [], [], _ => rfl
  | n :: ns, v :: vs, r => by
    have e : v = .int n := r.1
    rw [List.map_cons, e, RpL.ints (ns := ns) (vs := vs) r.2]
  | [], _ :: _, r => r.elim
  | _ :: _, [], r => r.elim
theorem cb_sum : CallOk Z (rSum Z.K) fSum := by
  intro σ ρ H G ds vs Qd Q ok r h hq
  unfold fSum at h
  split at h
  · obtain ⟨ns, e, h⟩ := h
    subst e
    obtain ⟨v, rfl, a, ws, rfl, q, r1⟩ := r.one
    rw [r1.ints] at q
    exact ⟨a, ns, rfl, .of (vis_some.mp q).2, hq (.int _) _ H (.refl H) rfl h⟩
  · exact h.elim
theorem Rp.tyx {K : PySem.W.Frag} {H : Hp} {S : Addr → Prop} {d : D} {v : V} {n : String} {b : Bool} (hK : K = Z.K) (r : Rp Z (vis H S) d v) (h : isTy d n = some b) : ∃ t : String, TyX K H v (.type t) ∧ PySem.W.kitOne K (.type t) (.type n) = some b := by
  subst hK
  unfold isTy at h
  cases e : tyOf d with
  | none => rw [e] at h; cases h
  | some t =>
    rw [e] at h
    have h' : (if n ∈ tyNames then some (t == n || (t == "bool" && n == "int")) else none) = some b := h
    by_cases hn : n ∈ tyNames
    · rw [if_pos hn] at h'
      refine ⟨t, ?_, kit_ty ((kit_all t (tyOf_mem e) n hn).trans h')⟩
      cases d with
      | non => cases r; cases e; exact .base .non
      | bl x => cases r; cases e; exact .base (.bl x)
      | int x => cases r; cases e; exact .base (.int x)
      | str x => cases r; cases e; exact .base (.str x)
      | tup ds =>
        obtain ⟨a, vs, rfl, q, _⟩ := r
        cases e
        rcases vis_sqT q with (q | ⟨o, q⟩) | ⟨o, its, n, q, c, _⟩
        · exact .base (.tup q)
        · exact .fTuple q
        · exact .kTuple q c
      | lst ds =>
        obtain ⟨a, vs, rfl, q, _⟩ := r
        cases e
        exact .base (.lst (vis_some.mp q).2)
      | _ => cases e
    · rw [if_neg hn] at h'
      cases h'
theorem cb_isi : CallOk Z (rIsi Z.K) fIsi := by
  intro σ ρ H G ds vs Qd Q ok r h hq
  unfold fIsi at h
  split at h
  · obtain ⟨b, e, h⟩ := h
    obtain ⟨v, u, rfl, e1, e2⟩ := r.two
    cases e2
    obtain ⟨t, h1, h2⟩ := Rp.tyx (K := Z.K) rfl e1 e
    exact ⟨v, _, _, _, b, rfl, .ty _, h1, h2, hq (.bl b) _ H (.refl H) rfl h⟩
  · exact h.elim
end
/-! ### calls of defs: a def's law in plain data -/
abbrev FS := List Sl → (D → List Sl → Prop) → EQ → Prop
/-- the promise that a law in plain data makes -/
def upF (Z : Zx) (n : Nat) (F : FS) : Sp := fun vs H Q E => vs.length = n ∧ ∃ as G Qd Ed, Ok Z (vs.map some) as H G ∧ F as Qd Ed ∧
  (∀ d v as' H', Ok Z (vs.map some) as' H' G → Stp Z (vs.map some) as H (vs.map some) as' H' → Rp Z (vis H' (Hid as' (vs.map some) G)) d v → Qd d as' → Q v H') ∧
  (∀ x c dd as' H', Ok Z (vs.map some) as' H' G → Stp Z (vs.map some) as H (vs.map some) as' H' → Pay Z H' x c dd → Ed x as' → E c dd H')
/-- a def of the text, as its callers know it -/
structure Df (P : Program) (w : World) (base : Heap) (Z : Zx) (k : Nat) (n : Str) (m : Nat) (F : FS) : Prop where
  ex : ∃ (f : Addr) (fd : FuncData) (ps : List Str), FnOk P w Z.K Z.mg base (L2N.CX P w) k f fd ps (upF Z m F) ∧ Z.mg n = some (.ref f) ∧ PySem.W.keepIn Z.K (.ref f) = true ∧ Binds Z.K fd ps []
def vals (ds : List D) : List Sl := ds.map Sl.val
/-- f(e, ..), values alone -/
def dCall (n : Nat) (F : FS) (t : DA) : DE := fun ρ Q E => t ρ (fun ds ρ1 => ds.length = n ∧ F (vals ds) (fun d _ => Q d ρ1) (fun x _ => E x ρ1)) E
/-- f(x, e, ..), x a list that f may change -/
def dCallR (n : Nat) (F : FS) (i : Nat) (t : DA) : DE := fun ρ Q E => (∃ ds0, heldAt ρ i = some ds0) ∧ t ρ (fun ds ρ1 => ds.length + 1 = n ∧ ∃ m, heldAt ρ1 i = some m ∧
  F (.brw m :: vals ds) (fun d as' => ∃ m', as' = .brw m' :: vals ds ∧ Q d (putAt ρ1 i m')) (fun x as' => ∃ m', as' = .brw m' :: vals ds ∧ E x (putAt ρ1 i m'))) E
section
variable {X : Cx} {Z : Zx} {W : WX}
theorem vals_at {ds : List D} {i : Nat} : slAt (vals ds) i = match ds[i]? with | some d => .val d | none => .no := by
  unfold slAt vals
  rw [List.getD_eq_getElem?_getD, List.getElem?_map]
  cases ds[i]? <;> rfl
theorem vals_held {ds : List D} {i : Nat} : heldAt (vals ds) i = none := by
  unfold heldAt
  rw [vals_at]
  cases ds[i]? <;> rfl
theorem vals_ow {ds : List D} {σ : L2.St} {a : Addr} : ¬ Ow (vals ds) σ a := fun ⟨i, xs, e, _⟩ => by
  rw [vals_held] at e
  cases e
theorem hid_ow {as : List Sl} {τ σ : L2.St} {ρ : Rho} {G : Addr → Prop} (n : ∀ a, ¬ Ow as τ a) : Hid as τ (Hid ρ σ G) = Hid ρ σ G := by
  funext a
  exact propext ⟨fun z => z.elim (fun z => z) fun z => (n a z).elim, .inl⟩
theorem Ok.args {σ : L2.St} {ρ : Rho} {H : Hp} {G : Addr → Prop} {ds : List D} {vs : List V} (k : Ok Z σ ρ H G) (r : RpL Z (vis H (Hid ρ σ G)) ds vs) : Ok Z (vs.map some) (vals ds) H (Hid ρ σ G) where
  len := by unfold vals; rw [List.length_map, List.length_map, r.len]
  val := fun i d e => by
    rw [vals_at] at e
    cases q : ds[i]? with
    | none => rw [q] at e; cases e
    | some d' =>
      rw [q] at e
      cases e
      obtain ⟨v, h1, h2⟩ := r.get q
      exact ⟨v, by rw [List.getElem?_map, h1]; rfl, by rw [hid_ow (fun a => vals_ow)]; exact h2⟩
  own := fun i xs e => by rw [vals_held] at e; cases e
  inj := fun i j xs ys a e => by rw [vals_held] at e; cases e
  j := k.j
  gt := fun a z => by
    rcases z with z | ⟨i, xs, e1, e2⟩
    · exact k.gt a z
    · obtain ⟨b, ws, h1, h2, _⟩ := k.own i xs e1
      rw [h1] at e2
      cases e2
      exact ⟨_, h2, fun z => z⟩
/-- behind a call that was handed values alone: the caller's slots stand -/
theorem Ok.back {σ : L2.St} {ρ : Rho} {H H' : Hp} {G : Addr → Prop} {ds : List D} {τ τ' : L2.St} {as' : List Sl} (k : Ok Z σ ρ H G) (s : Stp Z τ (vals ds) H τ' as' H') (j : Z.J H') : Ok Z σ ρ H' G ∧ Stp Z σ ρ H σ ρ H' ∧ Sub (vis H' (Hid as' τ' (Hid ρ σ G))) (vis H' (Hid ρ σ G)) := by
  have keep : ∀ a o, H a = some o → ¬ Tbl o → H' a = some o := fun a o h n => s.keep a o h n vals_ow
  have sub : Sub (vis H (Hid ρ σ G)) (vis H' (Hid ρ σ G)) := vis_sub fun a o h n m => ⟨n, keep a o h m⟩
  refine ⟨⟨k.len, fun i d e => ?_, fun i xs e => ?_, k.inj, j, fun a z => ?_⟩, ⟨fun a o h n _ => keep a o h n, fun _ _ _ _ n => n, fun i xs e => ⟨rfl, xs, e⟩⟩, vis_sub fun a o h n _ => ⟨fun z => n (.inl z), h⟩⟩
  · obtain ⟨v, h1, h2⟩ := k.val i d e
    exact ⟨v, h1, h2.sub sub⟩
  · obtain ⟨a, vs, h1, h2, h3, h4⟩ := k.own i xs e
    exact ⟨a, vs, h1, keep a _ h2 (fun z => z), h3.sub sub, h4⟩
  · obtain ⟨o, h1, h2⟩ := k.gt a z
    exact ⟨o, keep a o h1 h2, h2⟩
theorem de_call [F : Fit X Z] {k n : Nat} {x : Str} {e : Expr} {es : List Expr} {f : FS} {t : DA} {p pos : Pos} (d : Df X.prog X.w X.base Z k x n f) (tk : L2N.Takes X W) (hr : Room k X.A) (ha : PA X (e :: es) (upA Z W t)) (hg : Gl X x := by rfl)
    (hdb : (x == ("__debug__" : Str)) = false := by decide) (he : starEach (e :: es) X.env = (false, eval e X.env) :: starEach es X.env := by rfl) (hpl : (backTo pos (starEach es X.env)).any (·.1) = false := by rfl) :
    PE X (.Call (.Name x p) (e :: es) [] pos) (upE Z W (dCall n f t)) := by
  obtain ⟨fa, fd, ps, hF, hm, hk, hb⟩ := d.ex
  have hK := F.K
  have hM := F.mg
  rw [← hK, ← hM] at hF
  refine PE.wk (pe_callS hF hr hg (by rw [hM]; exact hm) (by rw [hK]; exact hk) (by rw [hK]; exact hb) (fun σ => L2N.passAt tk σ) ha hdb he hpl) fun σ H Q ⟨ρ, G, Qd, E, ok, h, hq, hx⟩ => ?_
  refine ⟨ρ, G, _, E, ok, h, fun ds vs ρ1 H1 ok1 s1 r1 h1 => ?_, hx⟩
  obtain ⟨hl', h1⟩ := h1
  refine ⟨by rw [← r1.len]; exact hl', vals ds, Hid ρ1 σ G, _, _, ok1.args r1, h1, fun d v as' H' ok' s' r' q' => ?_, fun x c dd as' H' ok' s' p' q' => ?_⟩
  · obtain ⟨b1, b2, b3⟩ := ok1.back s' ok'.j
    exact hq d v ρ1 H' b1 (s1.trans b2) (r'.sub b3) q'
  · obtain ⟨b1, b2, _⟩ := ok1.back s' ok'.j
    exact hx x c dd ρ1 H' b1 (s1.trans b2) p' q'
/-! a list handed on to be changed -/
theorem ow_brw {m : List D} {ds : List D} {a b : Addr} {vs : List V} : Ow (.brw m :: vals ds) ((V.ref a :: vs).map some) b ↔ b = a := by
  constructor
  · rintro ⟨j, xs, e1, e2⟩
    cases j with
    | zero =>
      have e3 : some (some (V.ref a)) = some (some (V.ref b)) := e2
      cases e3
      rfl
    | succ j =>
      have e3 : heldAt (vals ds) j = some xs := e1
      rw [vals_held] at e3
      cases e3
  · rintro rfl
    exact ⟨0, m, rfl, rfl⟩
theorem hid_brw {σ : L2.St} {ρ : Rho} {G : Addr → Prop} {m ds : List D} {a : Addr} {vs : List V} (h : Ow ρ σ a) : Hid (.brw m :: vals ds) ((V.ref a :: vs).map some) (fun b => Hid ρ σ G b ∧ b ≠ a) = Hid ρ σ G := by
  funext b
  refine propext ⟨fun z => ?_, fun z => ?_⟩
  · rcases z with z | z
    · exact z.1
    · rw [ow_brw.mp z]
      exact .inr h
  · by_cases e : b = a
    · exact .inr (ow_brw.mpr e)
    · exact .inl ⟨z, e⟩
theorem de_callR [F : Fit X Z] {k n i : Nat} {x y : Str} {es : List Expr} {f : FS} {t : DA} {p py pos : Pos} (d : Df X.prog X.w X.base Z k x n f) (tk : L2N.Takes X W) (hr : Room k X.A) (ha : PA X es (upA Z W t)) (hN : X.N[i]? = some y := by rfl)
    (hv : Vis X.env.scope y := by first | exact Or.inl rfl | exact Or.inr (Or.inl rfl) | exact Or.inr (Or.inr rfl)) (hg : Gl X x := by rfl) (hd : (y == ("__debug__" : Str)) = false := by decide) (hcd : (y == ("__classdict__" : Str)) = false := by decide)
    (hdb : (x == ("__debug__" : Str)) = false := by decide) (he : starEach (.Name y py :: es) X.env = (false, eval (.Name y py) X.env) :: starEach es X.env := by rfl) (hpl : (backTo pos (starEach es X.env)).any (·.1) = false := by rfl) :
    PE X (.Call (.Name x p) (.Name y py :: es) [] pos) (upE Z W (dCallR n f i t)) := by
  obtain ⟨fa, fd, ps, hF, hm, hk, hb⟩ := d.ex
  have hK := F.K
  have hM := F.mg
  rw [← hK, ← hM] at hF
  refine PE.wk (pe_callS hF hr hg (by rw [hM]; exact hm) (by rw [hK]; exact hk) (by rw [hK]; exact hb) (fun σ => L2N.passAt tk σ) (pa_cons (pe_var hN hv hd hcd) ha he) hdb he hpl) fun σ H Q ⟨ρ, G, Qd, E, ok, h, hq, hx⟩ => ?_
  obtain ⟨⟨ds0, h0⟩, h⟩ := h
  obtain ⟨a, _, ha0, _⟩ := ok.own i ds0 h0
  refine ⟨.ref a, ha0, ρ, G, _, E, ok, h, fun ds vs ρ1 H1 ok1 s1 r1 h1 => ?_, hx⟩
  obtain ⟨hl, m, hm1, h1⟩ := h1
  have how : Ow ρ1 σ a := ⟨i, m, hm1, ha0⟩
  obtain ⟨a', ws, hb0, hb1, hb2, hb3⟩ := ok1.own i m hm1
  rw [ha0] at hb0
  cases hb0
  have eH : Hid (.brw m :: vals ds) ((V.ref a :: vs).map some) (fun b => Hid ρ1 σ G b ∧ b ≠ a) = Hid ρ1 σ G := hid_brw how
  have okA : Ok Z ((V.ref a :: vs).map some) (.brw m :: vals ds) H1 (fun b => Hid ρ1 σ G b ∧ b ≠ a) := by
    have k0 := ok1.args r1
    refine ⟨by have := k0.len; simp only [List.map_cons, List.length_cons] at this ⊢; omega, fun j e q => ?_, fun j xs q => ?_, fun j l xs ys b q1 q2 q3 q4 => ?_, k0.j, fun b z => ?_⟩
    · cases j with
      | zero => cases q
      | succ j =>
        obtain ⟨v, z1, z2⟩ := k0.val j e q
        refine ⟨v, z1, ?_⟩
        rw [eH]
        rw [hid_ow (fun a => vals_ow)] at z2
        exact z2
    · cases j with
      | zero =>
        cases q
        exact ⟨a, ws, rfl, hb1, by rw [eH]; exact hb2, fun z => z.2 rfl⟩
      | succ j =>
        have q' : heldAt (vals ds) j = some xs := q
        rw [vals_held] at q'
        cases q'
    · cases j with
      | zero =>
        cases l with
        | zero => rfl
        | succ l =>
          have q' : heldAt (vals ds) l = some ys := q2
          rw [vals_held] at q'
          cases q'
      | succ j =>
        have q' : heldAt (vals ds) j = some xs := q1
        rw [vals_held] at q'
        cases q'
    · exact k0.gt b z.1
  have back : ∀ {m' : List D} {H' : Hp}, Ok Z ((V.ref a :: vs).map some) (.brw m' :: vals ds) H' (fun b => Hid ρ1 σ G b ∧ b ≠ a) → Stp Z ((V.ref a :: vs).map some) (.brw m :: vals ds) H1 ((V.ref a :: vs).map some) (.brw m' :: vals ds) H' →
      Ok Z σ (putAt ρ1 i m') H' G ∧ Stp Z σ ρ1 H1 σ (putAt ρ1 i m') H' ∧ Hid (.brw m' :: vals ds) ((V.ref a :: vs).map some) (fun b => Hid ρ1 σ G b ∧ b ≠ a) = Hid (putAt ρ1 i m') σ G := by
    intro m' H' ok' s'
    have keep : ∀ b o, H1 b = some o → ¬ Tbl o → b ≠ a → H' b = some o := fun b o q1 q2 q3 => s'.keep b o q1 q2 fun z => q3 (ow_brw.mp z)
    have eP : Hid (putAt ρ1 i m') σ G = Hid ρ1 σ G := by
      funext b
      exact propext ⟨fun z => z.imp (fun z => z) (Ow_put hm1 b).mp, fun z => z.imp (fun z => z) (Ow_put hm1 b).mpr⟩
    have eH' : Hid (.brw m' :: vals ds) ((V.ref a :: vs).map some) (fun b => Hid ρ1 σ G b ∧ b ≠ a) = Hid ρ1 σ G := hid_brw how
    have sub : Sub (vis H1 (Hid ρ1 σ G)) (vis H' (Hid (putAt ρ1 i m') σ G)) := vis_sub fun b o q1 q2 q3 => ⟨by rw [eP]; exact q2, keep b o q1 q3 fun z => q2 (.inr (by rw [z]; exact how))⟩
    refine ⟨⟨?_, fun j e q => ?_, fun j xs q => ?_, fun j l xs ys b q1 q2 q3 q4 => ?_, ok'.j, fun b z => ?_⟩, ⟨fun b o q1 q2 q3 => keep b o q1 q2 fun z => q3 (by rw [z]; exact how), fun b o _ _ q3 z => q3 ((Ow_put hm1 b).mp z), fun j xs q => ⟨rfl, ?_⟩⟩, by rw [eH', eP]⟩
    · unfold putAt
      rw [List.length_set]
      exact ok1.len
    · have hij : i ≠ j := fun z => by
        subst z
        unfold putAt at q
        rw [slAt_set, if_pos ⟨rfl, heldAt_lt hm1⟩] at q
        unfold heldAt at hm1
        cases w : slAt ρ1 i with
        | no => rw [w] at hm1; cases hm1
        | val d => rw [w] at hm1; cases hm1
        | own xs => rw [w] at q; cases q
        | brw xs => rw [w] at q; cases q
      unfold putAt at q
      rw [slAt_set, if_neg (fun z => hij z.1)] at q
      obtain ⟨v, z1, z2⟩ := ok1.val j e q
      exact ⟨v, z1, z2.sub sub⟩
    · rw [heldAt_put hm1] at q
      by_cases hij : i = j
      · rw [if_pos hij] at q
        cases q
        subst hij
        obtain ⟨b, us, z1, z2, z3, z4⟩ := ok'.own 0 m' rfl
        have z5 : some (some (V.ref a)) = some (some (V.ref b)) := z1
        cases z5
        refine ⟨a, us, ha0, z2, ?_, hb3⟩
        rw [eP, ← eH']
        exact z3
      · rw [if_neg hij] at q
        obtain ⟨b, us, z1, z2, z3, z4⟩ := ok1.own j xs q
        refine ⟨b, us, z1, keep b _ z2 (fun z => z) fun z => hij ?_, z3.sub sub, z4⟩
        rw [z] at z1
        exact ok1.inj i j m xs a hm1 q ha0 z1
    · have f : ∀ (j : Nat) (xs : List D), heldAt (putAt ρ1 i m') j = some xs → ∃ ys, heldAt ρ1 j = some ys := fun j xs z => by
        rw [heldAt_put hm1] at z
        by_cases hij : i = j
        · rw [← hij]
          exact ⟨m, hm1⟩
        · rw [if_neg hij] at z
          exact ⟨xs, z⟩
      obtain ⟨xs', w1⟩ := f j xs q1
      obtain ⟨ys', w2⟩ := f l ys q2
      exact ok1.inj j l xs' ys' b w1 w2 q3 q4
    · obtain ⟨o, z1, z2⟩ := ok1.gt b z
      exact ⟨o, keep b o z1 z2 (fun z3 => hb3 (by rw [← z3]; exact z)), z2⟩
    · by_cases hij : i = j
      · subst hij
        refine ⟨m', ?_⟩
        unfold putAt
        rw [slAt_set, if_pos ⟨rfl, heldAt_lt hm1⟩, q]
        rfl
      · refine ⟨xs, ?_⟩
        unfold putAt
        rw [slAt_set, if_neg (fun z => hij z.1)]
        exact q
  refine ⟨by have := r1.len; simp only [List.length_cons]; omega, _, _, _, _, okA, h1, fun e v as' H' ok' s' r' q' => ?_, fun x c dd as' H' ok' s' p' q' => ?_⟩
  · obtain ⟨m', rfl, q'⟩ := q'
    obtain ⟨b1, b2, b3⟩ := back ok' s'
    rw [b3] at r'
    exact hq e v _ H' b1 (s1.trans b2) r' q'
  · obtain ⟨m', rfl, q'⟩ := q'
    obtain ⟨b1, b2, b3⟩ := back ok' s'
    exact hx x c dd _ H' b1 (s1.trans b2) p' q'
end
end TS
set_option Elab.async false
set_option linter.all false
set_option maxRecDepth 100000
set_option maxHeartbeats 4000000
set_option exponentiation.threshold 10000
namespace TS
open PySem PySem.Spec PyProof.Rows L2
/-! ### what is walked -/
abbrev DI := Rho → (List D → Rho → Prop) → EQ → Prop
/-- the iterator J gives the data ds one by one, as long as what A shows stands -/
def ItOk (Z : Zx) (A : Hp) (J : It) (ds : List D) : Prop := ∀ (i : Nat) (H : Hp) (S : Addr → Prop), Sub A (vis H S) → (∀ a, S a → ∃ o, H a = some o) →
  (i < ds.length → J.go i H ∧ ∀ x H2, J.yld i H x H2 → Same H H2 ∧ ∃ d, ds[i]? = some d ∧ Rp Z (vis H2 S) d x) ∧ (i = ds.length → J.stop i H)
def upI (Z : Zx) (W : WX) (t : DI) : TI := fun σ H R => ∃ ρ G Qd E, Ok Z σ ρ H G ∧ t ρ Qd E ∧
  (∀ ds ρ' H' J, Ok Z σ ρ' H' G → Stp Z σ ρ H σ ρ' H' → ItOk Z (vis H' (Hid ρ' σ G)) J ds → Qd ds ρ' → R J H') ∧ XPE Z W σ ρ H G E
section
variable {X : Cx} {Z : Zx} {W : WX}
theorem PI.wk {tg e : Expr} {t t' : TI} (h : PI X tg e t) (k : ∀ σ H R, t' σ H R → t σ H R) : PI X tg e t' := ⟨fun pins s σ H R I z => h.run pins s σ H R I (k σ H R z)⟩
theorem it_list {A : Hp} {a : Addr} {vs : List V} {ds : List D} {K : PySem.W.Frag} (h : A a = some (.lst vs)) (r : RpL Z A ds vs) : ItOk Z A (Itl K a) ds := fun i H S sub _ => by
  have q : SqL K H a vs := .of (vis_some.mp (sub _ _ h (fun z => z))).2
  refine ⟨fun hi => ?_, fun hi => ⟨vs, q, by rw [hi, r.len]; exact Nat.le_refl _⟩⟩
  obtain ⟨v, h1, h2⟩ := r.get (List.getElem?_eq_getElem hi)
  refine ⟨⟨vs, v, q, h1⟩, fun x H2 y => ?_⟩
  obtain ⟨e, y⟩ := y
  subst e
  have e2 := y vs q
  rw [h1] at e2
  cases e2
  exact ⟨.refl _, _, List.getElem?_eq_getElem hi, h2.sub sub⟩
theorem it_tup {A : Hp} {a : Addr} {vs : List V} {ds : List D} (h : SqT Z.K A a vs) (r : RpL Z A ds vs) : ItOk Z A (Itt Z.K a) ds := fun i H S sub _ => by
  have q : SqT Z.K H a vs := vis_sqT (sub.sqT h)
  refine ⟨fun hi => ?_, fun hi => ⟨vs, q, by rw [hi, r.len]; exact Nat.le_refl _⟩⟩
  obtain ⟨v, h1, h2⟩ := r.get (List.getElem?_eq_getElem hi)
  refine ⟨⟨vs, v, q, h1⟩, fun x H2 y => ?_⟩
  obtain ⟨e, y⟩ := y
  subst e
  have e2 := y vs q
  rw [h1] at e2
  cases e2
  exact ⟨.refl _, _, List.getElem?_eq_getElem hi, h2.sub sub⟩
theorem it_range {A : Hp} {lo : Int} {n : Nat} : ItOk Z A (Itr lo n) ((List.range n).map fun (i : Nat) => D.int (lo + i)) := fun i H S _ _ => by
  refine ⟨fun hi => ?_, fun hi => ?_⟩
  · have hi' : i < n := by simpa using hi
    refine ⟨hi', fun x H2 y => ?_⟩
    obtain ⟨e, y⟩ := y
    subst e
    subst y
    exact ⟨.refl _, .int (lo + i), by simp [hi'], rfl⟩
  · have e : i = n := by simpa using hi
    exact Nat.le_of_eq e.symm
/-- a list or a tuple of data -/
def iSeq (t : DE) : DI := fun ρ Q E => t ρ (fun d ρ' => match d with
  | .lst ds => Q ds ρ'
  | .tup ds => Q ds ρ'
  | _ => False) E
/-- only lists; only tuples -/
def iL (t : DE) : DI := fun ρ Q E => t ρ (fun d ρ' => ∃ ds, d = .lst ds ∧ Q ds ρ') E
def iT (t : DE) : DI := fun ρ Q E => t ρ (fun d ρ' => ∃ ds, d = .tup ds ∧ Q ds ρ') E
theorem di_list {tg l : Expr} {t : DE} (hl : PE X l (upE Z W t)) : PI X tg l (upI Z W (iL t)) := PI.wk (pi_list hl) fun σ H R ⟨ρ, G, Qd, E, ok, h, hq, hx⟩ => by
  refine ⟨ρ, G, _, E, ok, h, fun d v ρ1 H1 ok1 s1 r1 h1 => ?_, hx⟩
  obtain ⟨ds, rfl, q⟩ := h1
  obtain ⟨a, vs, rfl, q1, q2⟩ := r1
  exact ⟨a, rfl, ⟨vs, .of (vis_some.mp q1).2⟩, hq ds ρ1 H1 _ ok1 s1 (it_list q1 q2) q⟩
theorem di_tup [F : Fit X Z] {tg l : Expr} {t : DE} (hl : PE X l (upE Z W t)) : PI X tg l (upI Z W (iT t)) := PI.wk (pi_tup hl) fun σ H R ⟨ρ, G, Qd, E, ok, h, hq, hx⟩ => by
  refine ⟨ρ, G, _, E, ok, h, fun d v ρ1 H1 ok1 s1 r1 h1 => ?_, hx⟩
  obtain ⟨ds, rfl, q⟩ := h1
  obtain ⟨a, vs, rfl, q1, q2⟩ := r1
  rw [F.K]
  exact ⟨a, rfl, ⟨vs, vis_sqT q1⟩, hq ds ρ1 H1 _ ok1 s1 (it_tup q1 q2) q⟩
/-- range(a), range(a, b) -/
def iR1 (t : DA) : DI := fun ρ Q E => t ρ (fun ds ρ' => ∃ n : Int, ds = [.int n] ∧ (-1000000 ≤ n ∧ n ≤ 1000000) ∧ Q ((List.range n.toNat).map fun (i : Nat) => D.int (0 + i)) ρ') E
def iR2 (t : DA) : DI := fun ρ Q E => t ρ (fun ds ρ' => ∃ a b : Int, ds = [.int a, .int b] ∧ (-1000000 ≤ a ∧ a ≤ 1000000 ∧ -1000000 ≤ b ∧ b ≤ 1000000) ∧ Q ((List.range (b - a).toNat).map fun (i : Nat) => D.int (a + i)) ρ') E
theorem di_range1 [F : Fit X Z] {tg a : Expr} {t : DA} {p pos : Pos} (hm : Z.mg "range" = none) (ha : PA X [a] (upA Z W t)) (hg : Gl X "range" := by rfl) (hs : starEach [a] X.env = [(false, eval a X.env)] := by rfl) : PI X tg (.Call (.Name "range" p) [a] [] pos) (upI Z W (iR1 t)) :=
  PI.wk (pi_range1 hg (by rw [F.mg]; exact hm) ha hs) fun σ H R ⟨ρ, G, Qd, E, ok, h, hq, hx⟩ => by
    refine ⟨ρ, G, _, E, ok, h, fun ds vs ρ1 H1 ok1 s1 r1 h1 => ?_, hx⟩
    obtain ⟨n, rfl, hb, q⟩ := h1
    obtain ⟨v, rfl, e⟩ := r1.one
    cases e
    exact ⟨n, rfl, by omega, by omega, hq _ ρ1 H1 _ ok1 s1 it_range q⟩
theorem di_range2 [F : Fit X Z] {tg a b : Expr} {t : DA} {p pos : Pos} (hm : Z.mg "range" = none) (ha : PA X [a, b] (upA Z W t)) (hg : Gl X "range" := by rfl) (hs : starEach [a, b] X.env = [(false, eval a X.env), (false, eval b X.env)] := by rfl)
    (hs2 : starEach [b] X.env = [(false, eval b X.env)] := by rfl) : PI X tg (.Call (.Name "range" p) [a, b] [] pos) (upI Z W (iR2 t)) :=
  PI.wk (pi_range2 hg (by rw [F.mg]; exact hm) ha hs hs2) fun σ H R ⟨ρ, G, Qd, E, ok, h, hq, hx⟩ => by
    refine ⟨ρ, G, _, E, ok, h, fun ds vs ρ1 H1 ok1 s1 r1 h1 => ?_, hx⟩
    obtain ⟨a, b, rfl, hb, q⟩ := h1
    obtain ⟨v, u, rfl, e1, e2⟩ := r1.two
    cases e1
    cases e2
    exact ⟨a, b, rfl, ⟨by omega, by omega, by omega, by omega⟩, hq _ ρ1 H1 _ ok1 s1 it_range q⟩
/-- a text, sign by sign -/
def iS (t : DE) : DI := fun ρ Q E => t ρ (fun d ρ' => ∃ x : Str, d = .str x ∧ Q (x.cps.toList.map fun c => D.str ⟨#[c]⟩) ρ') E
theorem di_str {tg l : Expr} {t : DE} (hl : PE X l (upE Z W t)) : PI X tg l (upI Z W (iS t)) := PI.wk (pi_str hl) fun σ H R ⟨ρ, G, Qd, E, ok, h, hq, hx⟩ => by
  refine ⟨ρ, G, _, E, ok, h, fun d v ρ1 H1 ok1 s1 r1 h1 => ?_, hx⟩
  obtain ⟨x, rfl, q⟩ := h1
  cases r1
  refine ⟨x, rfl, hq _ ρ1 H1 _ ok1 s1 (fun i H S _ _ => ⟨fun hi => ?_, fun hi => ?_⟩) q⟩
  · have hi' : i < x.cps.size := by simpa using hi
    refine ⟨hi', fun y H2 w => ?_⟩
    obtain ⟨e, c, h1, h2⟩ := w
    subst e
    subst h2
    exact ⟨.refl _, .str ⟨#[c]⟩, by rw [List.getElem?_map, Array.getElem?_toList, h1]; rfl, rfl⟩
  · have e : i = x.cps.size := by simpa using hi
    exact Nat.le_of_eq e.symm
end
/-! ### targets -/
abbrev DG := D → Rho → (Rho → Prop) → Prop
abbrev DGs := List D → Rho → (Rho → Prop) → Prop
def nb : Sl → Prop
  | .brw _ => False
  | _ => True
def gNm (i : Nat) : DG := fun d ρ Q => nb (slAt ρ i) ∧ Q (ρ.set i (.val d))
def gTp (n : Nat) (g : DGs) : DG := fun d ρ Q => match d with
  | .tup ds => ds.length = n ∧ g ds ρ Q
  | _ => False
def gN : DGs := fun ds ρ Q => match ds with
  | [] => Q ρ
  | _ => False
def gC (g : DG) (h : DGs) : DGs := fun ds ρ Q => match ds with
  | d :: ds => g d ρ fun ρ' => h ds ρ' Q
  | [] => False
/-- outside the slots ts all is as it was -/
def Only (ts : List Nat) (σ : L2.St) (ρ : Rho) (σ' : L2.St) (ρ' : Rho) : Prop := σ'.length = σ.length ∧ ∀ j, j ∉ ts → σ'[j]? = σ[j]? ∧ slAt ρ' j = slAt ρ j
def upG (Z : Zx) (ts : List Nat) (g : DG) : TG := fun v σ H Q => ∃ d ρ G Qd, Ok Z σ ρ H G ∧ Rp Z (vis H (Hid ρ σ G)) d v ∧ g d ρ Qd ∧ ∀ σ' ρ', Ok Z σ' ρ' H G → Stp Z σ ρ H σ' ρ' H → Only ts σ ρ σ' ρ' → Qd ρ' → Q σ' H
def upGs (Z : Zx) (ts : List Nat) (n : Nat) (g : DGs) : TGs := fun vs σ H Q => vs.length = n ∧ ∃ ds ρ G Qd, Ok Z σ ρ H G ∧ RpL Z (vis H (Hid ρ σ G)) ds vs ∧ g ds ρ Qd ∧ ∀ σ' ρ', Ok Z σ' ρ' H G → Stp Z σ ρ H σ' ρ' H → Only ts σ ρ σ' ρ' → Qd ρ' → Q σ' H
section
variable {X : Cx} {Z : Zx} {W : WX} {σ : L2.St} {ρ : Rho} {H : Hp} {G : Addr → Prop}
theorem Ok.set {i : Nat} {d : D} {v : V} (k : Ok Z σ ρ H G) (r : Rp Z (vis H (Hid ρ σ G)) d v) (hb : nb (slAt ρ i)) : Ok Z (σ.set i (some v)) (ρ.set i (.val d)) H G ∧ Stp Z σ ρ H (σ.set i (some v)) (ρ.set i (.val d)) H := by
  by_cases hi : i < ρ.length
  · have hiσ : i < σ.length := by rw [← k.len]; exact hi
    have held : ∀ j xs, heldAt (ρ.set i (.val d)) j = some xs → i ≠ j ∧ heldAt ρ j = some xs := fun j xs e => by
      unfold heldAt at e ⊢
      rw [slAt_set] at e
      by_cases q : i = j
      · subst q
        rw [if_pos ⟨rfl, hi⟩] at e
        cases e
      · rw [if_neg (fun z => q z.1)] at e
        exact ⟨q, e⟩
    have sg : ∀ j, i ≠ j → (σ.set i (some v))[j]? = σ[j]? := fun j q => List.getElem?_set_ne q
    have ow : ∀ a, Ow (ρ.set i (.val d)) (σ.set i (some v)) a → Ow ρ σ a := fun a ⟨j, xs, e1, e2⟩ => by
      obtain ⟨q, e3⟩ := held j xs e1
      rw [sg j q] at e2
      exact ⟨j, xs, e3, e2⟩
    have sub : Sub (vis H (Hid ρ σ G)) (vis H (Hid (ρ.set i (.val d)) (σ.set i (some v)) G)) := vis_sub fun a o h n _ => ⟨fun z => n (z.imp (fun z => z) (ow a)), h⟩
    refine ⟨⟨by rw [List.length_set, List.length_set]; exact k.len, fun j e q => ?_, fun j xs q => ?_, fun j l xs ys a q1 q2 q3 q4 => ?_, k.j, k.gt⟩, ⟨fun _ _ h _ _ => h, fun a _ _ _ n z => n (ow a z), fun j xs q => ?_⟩⟩
    · rw [slAt_set] at q
      by_cases w : i = j
      · subst w
        rw [if_pos ⟨rfl, hi⟩] at q
        cases q
        exact ⟨v, List.getElem?_set_self hiσ, r.sub sub⟩
      · rw [if_neg (fun z => w z.1)] at q
        obtain ⟨u, h1, h2⟩ := k.val j e q
        exact ⟨u, by rw [sg j w]; exact h1, h2.sub sub⟩
    · obtain ⟨w, q'⟩ := held j xs q
      obtain ⟨a, ws, h1, h2, h3, h4⟩ := k.own j xs q'
      exact ⟨a, ws, by rw [sg j w]; exact h1, h2, h3.sub sub, h4⟩
    · obtain ⟨w1, q1'⟩ := held j xs q1
      obtain ⟨w2, q2'⟩ := held l ys q2
      rw [sg j w1] at q3
      rw [sg l w2] at q4
      exact k.inj j l xs ys a q1' q2' q3 q4
    · have w : i ≠ j := fun z => by
        subst z
        rw [q] at hb
        exact hb
      exact ⟨sg j w, xs, by rw [slAt_set, if_neg (fun z => w z.1)]; exact q⟩
  · have e1 : ρ.set i (.val d) = ρ := List.set_eq_of_length_le (by omega)
    have e2 : σ.set i (some v) = σ := List.set_eq_of_length_le (by rw [← k.len]; omega)
    rw [e1, e2]
    exact ⟨k, .refl⟩
theorem PG.wk {tg : Expr} {t t' : TG} (h : PG X tg t) (k : ∀ v σ H Q, t' v σ H Q → t v σ H Q) : PG X tg t' := ⟨fun pins s σ H v u Q I r z => h.run pins s σ H v u Q I r (k v σ H Q z)⟩
theorem PGs.wk {ts : List Expr} {t t' : TGs} (h : PGs X ts t) (k : ∀ v σ H Q, t' v σ H Q → t v σ H Q) : PGs X ts t' := ⟨fun pins s σ H v u Q I r z => h.run pins s σ H v u Q I r (k v σ H Q z)⟩
theorem dg_name {i : Nat} {x : Str} {pos : Pos} (hN : X.N.Nodup) (hi : X.N[i]? = some x := by rfl) (hx : Loc X.env.scope x := by first | exact Or.inl rfl | exact Or.inr rfl) (hf : X.fn x = true ∨ X.env.scope.names.lookup x = some .local := by first | exact .inl rfl | exact .inr rfl) :
    PG X (.Name x pos) (upG Z [i] (gNm i)) := PG.wk (pg_name hN hi hx hf) fun v σ H Q ⟨d, ρ, G, Qd, ok, r, h, hq⟩ => by
  obtain ⟨k1, k2⟩ := ok.set r h.1
  exact hq _ _ k1 k2 ⟨List.length_set, fun j hj => by
    have q : i ≠ j := fun z => hj (by rw [z]; exact List.mem_cons_self)
    exact ⟨List.getElem?_set_ne q, by rw [slAt_set, if_neg (fun z => q z.1)]⟩⟩ h.2
theorem dgs_nil : PGs X [] (upGs Z [] 0 gN) := PGs.wk pgs_nil fun vs σ H Q ⟨hl, ds, ρ, G, Qd, ok, r, h, hq⟩ => by
  have e : vs = [] := List.length_eq_zero_iff.mp hl
  subst e
  have e2 : ds = [] := List.length_eq_zero_iff.mp r.len
  subst e2
  exact ⟨rfl, hq σ ρ ok .refl ⟨rfl, fun _ _ => ⟨rfl, rfl⟩⟩ h⟩
theorem dgs_cons {e : Expr} {es : List Expr} {n : Nat} {ts us : List Nat} {g : DG} {h : DGs} (h1 : PG X e (upG Z ts g)) (h2 : PGs X es (upGs Z us n h)) (hs : (assignEach (e :: es) X.env).map (·.2) = assign e X.env :: (assignEach es X.env).map (·.2) := by rfl) :
    PGs X (e :: es) (upGs Z (ts ++ us) (n + 1) (gC g h)) := PGs.wk (pgs_cons h1 h2 hs) fun vs σ H Q ⟨hl, ds, ρ, G, Qd, ok, r, z, hq⟩ => by
  match ds, vs, r with
  | d :: ds, v :: vs, r =>
    refine ⟨v, vs, rfl, d, ρ, G, _, ok, r.1, z, fun σ1 ρ1 ok1 s1 o1 q1 => ?_⟩
    exact ⟨by simpa using hl, ds, ρ1, G, Qd, ok1, r.2.sub s1.vis, q1, fun σ2 ρ2 ok2 s2 o2 q2 => hq σ2 ρ2 ok2 (s1.trans s2) ⟨o2.1.trans o1.1, fun j hj => by
      obtain ⟨a1, a2⟩ := o1.2 j fun z => hj (List.mem_append_left _ z)
      obtain ⟨b1, b2⟩ := o2.2 j fun z => hj (List.mem_append_right _ z)
      exact ⟨b1.trans a1, b2.trans a2⟩⟩ q2⟩
  | [], [], _ => exact z.elim
  | [], _ :: _, r => exact r.elim
  | _ :: _, [], r => exact r.elim
theorem dg_tup [F : Fit X Z] {es : List Expr} {n k : Nat} {ts : List Nat} {pos : Pos} {g : DGs} (hc : X.calm = true) (h : PGs X es (upGs Z ts n g)) (hn : (assignEach es X.env).length = n := by rfl) (hst : (assignEach es X.env).findIdx? (·.1) = none := by rfl) :
    PG X (.Tuple es k pos) (upG Z ts (gTp n g)) := PG.wk (pg_tup hc h hn hst) fun v σ H Q ⟨d, ρ, G, Qd, ok, r, z, hq⟩ => by
  cases d with
  | tup ds =>
    obtain ⟨a, vs, rfl, q1, q2⟩ := r
    have hl : vs.length = n := by rw [← q2.len]; exact z.1
    rw [F.K]
    exact ⟨a, vs, rfl, vis_sqT q1, hl, hl, ds, ρ, G, Qd, ok, q2, z.2, hq⟩
  | _ => exact z.elim
end
end TS
set_option Elab.async false
set_option linter.all false
set_option maxRecDepth 100000
set_option maxHeartbeats 4000000
set_option exponentiation.threshold 10000
namespace TS
open PySem PySem.Spec PyProof.Rows L2
/-! ### statements -/
def sNext : DS := fun B _ ρ => B.nx ρ
def sSeq (t u : DS) : DS := fun B E ρ => t { B with nx := fun ρ' => u B E ρ' } E ρ
def sDrop (t : DE) : DS := fun B E ρ => t ρ (fun _ ρ' => B.nx ρ') E
def sRet (t : DE) : DS := fun B E ρ => t ρ B.rt E
def sRetN : DS := fun B _ ρ => B.rt .non ρ
def sIf (c : DT) (t u : DS) : DS := fun B E ρ => c ρ (fun b ρ' => if b = true then t B E ρ' else u B E ρ') E
def sAsg (t : DE) (g : DG) : DS := fun B E ρ => t ρ (fun d ρ' => g d ρ' B.nx) E
def sBreak : DS := fun B _ ρ => B.bk ρ
def sCont : DS := fun B _ ρ => B.ct ρ
def sNever : DS := fun _ _ _ => False
def sRaise (n : Str) : DS := fun _ E ρ => E ⟨n, none⟩ ρ
def sPar (i j : Nat) (t : DA) : DS := fun B E ρ => t ρ (fun ds ρ' => match ds with
  | [d, e] => (nb (slAt ρ' i) ∧ nb (slAt (ρ'.set i (.val d)) j)) ∧ B.nx ((ρ'.set i (.val d)).set j (.val e))
  | _ => False) E
def forD (g : DG) (tb : DS) (B : DEnds) (E : EQ) : List D → Rho → Prop
  | [], ρ => B.nx ρ
  | d :: ds, ρ => g d ρ fun ρ' => tb { B with nx := forD g tb B E ds, ct := forD g tb B E ds, bk := B.nx } E ρ'
def sFor (ti : DI) (g : DG) (tb : DS) : DS := fun B E ρ => ti ρ (fun ds ρ' => forD g tb B E ds ρ') E
def sWhile (c : DT) (tb : DS) : DS := fun B E ρ => ∃ I : Nat → Rho → Prop, (∃ m, I m ρ) ∧ ∀ m ρ, I m ρ → c ρ (fun b ρ1 => if b = true then
  tb { B with nx := fun ρ' => ∃ m', m' < m ∧ I m' ρ', ct := fun ρ' => ∃ m', m' < m ∧ I m' ρ', bk := B.nx } E ρ1 else B.nx ρ1) E
/-- an exception class of the text over ValueError, without an own __init__ -/
structure ExcF (Z : Zx) (n : Str) : Prop where
  ex : ∃ C, Z.mg n = some (.ref C) ∧ PySem.W.excIn Z.K C He.veBase "ValueError.__new__" = true ∧ PySem.W.keepIn Z.K (.ref C) = true ∧ PySem.W.subIn Z.K (.ref C) (.type "BaseException") = some true ∧ PySem.W.typeIn Z.K (.ref C) = some (.type "type")
section
variable {X : Cx} {Z : Zx} {W : WX}
theorem dss_nil : PSs X [] (upS Z W sNext) := PSs.wk pss_nil fun B σ H ⟨ρ, G, DD, E, ok, h, hq, hx⟩ => (hq σ ρ H ok .refl).1 h
theorem dss_cons {s : Stmt} {r : List Stmt} {t u : DS} (h1 : PS X s (upS Z W t)) (h2 : PSs X r (upS Z W u)) : PSs X (s :: r) (upS Z W (sSeq t u)) := PSs.wk (pss_cons h1 h2) fun B σ H ⟨ρ, G, DD, E, ok, h, hq, hx⟩ => by
  refine ⟨ρ, G, _, E, ok, h, fun σ1 ρ1 H1 ok1 s1 => ⟨fun q => ?_, fun q => (hq σ1 ρ1 H1 ok1 s1).2.1 q, fun q => (hq σ1 ρ1 H1 ok1 s1).2.2.1 q, fun d v r q => (hq σ1 ρ1 H1 ok1 s1).2.2.2 d v r q⟩, hx⟩
  exact ⟨ρ1, G, DD, E, ok1, q, fun σ2 ρ2 H2 ok2 s2 => hq σ2 ρ2 H2 ok2 (s1.trans s2), hx.step s1⟩
theorem dss_one {s : Stmt} {t : DS} (h : PS X s (upS Z W t)) : PSs X [s] (upS Z W t) := pss_one h
theorem ds_pass {pos : Pos} : PS X (.Pass pos) (upS Z W sNext) := PS.wk ps_pass fun B σ H ⟨ρ, G, DD, E, ok, h, hq, hx⟩ => (hq σ ρ H ok .refl).1 h
theorem ds_break {pos : Pos} : PS X (.Break pos) (upS Z W sBreak) := PS.wk ps_break fun B σ H ⟨ρ, G, DD, E, ok, h, hq, hx⟩ => (hq σ ρ H ok .refl).2.1 h
theorem ds_cont {pos : Pos} : PS X (.Continue pos) (upS Z W sCont) := PS.wk ps_continue fun B σ H ⟨ρ, G, DD, E, ok, h, hq, hx⟩ => (hq σ ρ H ok .refl).2.2.1 h
theorem ds_never {s : Stmt} : PS X s (upS Z W sNever) := ⟨fun _ _ _ _ _ _ ⟨_, _, _, _, _, h, _⟩ => h.elim⟩
theorem dss_never {s : List Stmt} : PSs X s (upS Z W sNever) := ⟨fun _ _ _ _ _ _ ⟨_, _, _, _, _, h, _⟩ => h.elim⟩
theorem ds_expr {e : Expr} {t : DE} {pos : Pos} (he : PE X e (upE Z W t)) (hs : swapsWith e none pos.line X.env = pure false := by rfl) : PS X (.Expr e pos) (upS Z W (sDrop t)) := PS.wk (ps_expr he hs) fun B σ H ⟨ρ, G, DD, E, ok, h, hq, hx⟩ =>
  ⟨ρ, G, _, E, ok, h, fun d v ρ1 H1 ok1 s1 r1 h1 => (hq σ ρ1 H1 ok1 s1).1 h1, hx.e⟩
theorem ds_ret {e : Expr} {t : DE} {pos : Pos} (he : PE X e (upE Z W t)) : PS X (.Return (some e) pos) (upS Z W (sRet t)) := PS.wk (ps_ret he) fun B σ H ⟨ρ, G, DD, E, ok, h, hq, hx⟩ =>
  ⟨ρ, G, _, E, ok, h, fun d v ρ1 H1 ok1 s1 r1 h1 => (hq σ ρ1 H1 ok1 s1).2.2.2 d v r1 h1, hx.e⟩
theorem ds_retN {pos : Pos} : PS X (.Return none pos) (upS Z W sRetN) := PS.wk ps_retN fun B σ H ⟨ρ, G, DD, E, ok, h, hq, hx⟩ => (hq σ ρ H ok .refl).2.2.2 .non .non rfl h
theorem ds_if {c : Expr} {a b : List Stmt} {tc : DT} {t u : DS} {pos : Pos} (hc : PT X c (upT Z W tc)) (ha : PSs X a (upS Z W t)) (hb : PSs X b (upS Z W u)) : PS X (.If c a b pos) (upS Z W (sIf tc t u)) := PS.wk (ps_if hc ha hb) fun B σ H ⟨ρ, G, DD, E, ok, h, hq, hx⟩ => by
  refine ⟨ρ, G, _, E, ok, h, fun b ρ1 H1 ok1 s1 h1 => ?_, hx.e⟩
  cases b with
  | true =>
    rw [if_pos rfl] at h1 ⊢
    exact ⟨ρ1, G, DD, E, ok1, h1, fun σ2 ρ2 H2 ok2 s2 => hq σ2 ρ2 H2 ok2 (s1.trans s2), hx.step s1⟩
  | false =>
    rw [if_neg (by decide)] at h1 ⊢
    exact ⟨ρ1, G, DD, E, ok1, h1, fun σ2 ρ2 H2 ok2 s2 => hq σ2 ρ2 H2 ok2 (s1.trans s2), hx.step s1⟩
theorem up_asg {ts : List Nat} {t : DE} {g : DG} (B : Ends) (σ : L2.St) (H : Hp) (h : upS Z W (sAsg t g) B σ H) : tAsg (upE Z W t) (upG Z ts g) B σ H := by
  obtain ⟨ρ, G, DD, E, ok, h, hq, hx⟩ := h
  refine ⟨ρ, G, _, E, ok, h, fun d v ρ1 H1 ok1 s1 r1 h1 => ?_, hx.e⟩
  exact ⟨d, ρ1, G, _, ok1, r1, h1, fun σ2 ρ2 ok2 s2 _ q => (hq σ2 ρ2 H1 ok2 (s1.trans s2)).1 q⟩
/-- target = value -/
theorem ds_asg {tg e : Expr} {ts : List Nat} {t : DE} {g : DG} {pos : Pos} (he : PE X e (upE Z W t)) (hg : PG X tg (upG Z ts g)) (h1 : (assignEach [tg] X.env).map (·.2) = [assign tg X.env] := by rfl) (hs : swapsWithSole [tg] e pos.line X.env = pure false := by rfl) (hw : swappedStores [tg] e X.env = pure none := by rfl) :
    PS X (.Assign [tg] e pos) (upS Z W (sAsg t g)) := PS.wk (ps_asg he hg hs hw h1) up_asg
/-- name = value -/
theorem ds_set {i : Nat} {x : Str} {e : Expr} {t : DE} {pos pos' : Pos} (hN : X.N.Nodup) (he : PE X e (upE Z W t)) (hi : X.N[i]? = some x := by rfl) (hx : Loc X.env.scope x := by first | exact Or.inl rfl | exact Or.inr rfl)
    (hs : swapsWith e (some (.Name x pos')) pos.line X.env = pure false := by rfl) (hf : X.fn x = true ∨ X.env.scope.names.lookup x = some .local := by first | exact .inl rfl | exact .inr rfl) :
    PS X (.Assign [.Name x pos'] e pos) (upS Z W (sAsg t (gNm i))) := PS.wk (ps_set hN hi hx he hs hf) fun B σ H ⟨ρ, G, DD, E, ok, h, hq, hx⟩ =>
  ⟨ρ, G, _, E, ok, h, fun d v ρ1 H1 ok1 s1 r1 h1 => by
    obtain ⟨k1, k2⟩ := ok1.set r1 h1.1
    exact (hq _ _ H1 k1 (s1.trans k2)).1 h1.2, hx.e⟩
theorem ds_par {i j : Nat} {x y : Str} {a b : Expr} {t : DA} {px py pt : Pos} {kt k2 : Nat} {pt2 pos : Pos} (hc : X.calm = true) (hN : X.N.Nodup) (ha : PA X [a, b] (upA Z W t)) (hij : i ≠ j := by decide) (hi : X.N[i]? = some x := by rfl) (hj : X.N[j]? = some y := by rfl)
    (hx : X.env.scope.names.lookup x = some .local := by rfl) (hy : X.env.scope.names.lookup y = some .local := by rfl)
    (hw : swappedStores [.Tuple [.Name x px, .Name y py] kt pt] (.Tuple [a, b] k2 pt2) X.env = pure (some [x, y]) := by rfl)
    (hs : swapsWithSole [.Tuple [.Name x px, .Name y py] kt pt] (.Tuple [a, b] k2 pt2) pos.line X.env = pure false := by rfl) :
    PS X (.Assign [.Tuple [.Name x px, .Name y py] kt pt] (.Tuple [a, b] k2 pt2) pos) (upS Z W (sPar i j t)) := PS.wk (ps_par hc hN hi hj hij hx hy ha hw hs) fun B σ H ⟨ρ, G, DD, E, ok, h, hq, hx⟩ => by
  refine ⟨ρ, G, _, E, ok, h, fun ds vs ρ1 H1 ok1 s1 r1 h1 => ?_, hx.e⟩
  match ds, h1 with
  | [d, e], h1 =>
    obtain ⟨v, u, rfl, e1, e2⟩ := r1.two
    obtain ⟨⟨n1, n2⟩, h1⟩ := h1
    obtain ⟨k1, k2⟩ := ok1.set e1 n1
    obtain ⟨k3, k4⟩ := k1.set (e2.sub k2.vis) n2
    exact ⟨v, u, rfl, (hq _ _ H1 k3 ((s1.trans k2).trans k4)).1 h1⟩
theorem ds_raise [F : Fit X Z] {n m : Str} {j : Nat} {p p2 p3 pos : Pos} (f : ExcF Z n) (hc : X.calm = true) (tk : L2N.Takes X W) (hg : Gl X n := by rfl) (hdb : (n == ("__debug__" : Str)) = false := by decide) :
    PS X (.Raise (some (.Call (.Name n p) [.Constant (.str m) j p2] [] p3)) none pos) (upS Z W (sRaise n)) := by
  obtain ⟨C, h1, h2, h3, h4, h5⟩ := f.ex
  refine PS.wk (L2N.ps_raise hc tk (L2N.pmk_own PySem.F.excBase_ValueError (by rw [F.K]; exact h2) (by rw [F.mg]; exact h1) (by rw [F.K]; exact h3) (raises_own (by rw [F.K]; exact h4) (by rw [F.K]; exact h5)) hg hdb)) ?_
  exact fun B σ H ⟨ρ, G, DD, E, ok, h, hq, hx⟩ => hx _ _ _ σ ρ H ok .refl ⟨C, h1, rfl, rfl⟩ h
theorem XP.any {σ : L2.St} {ρ : Rho} {H : Hp} {G : Addr → Prop} {E E' : EQ} (x : XP Z W σ ρ H G E) (h : ∀ y ρ, E' y ρ → E y ρ) : XP Z W σ ρ H G E' := fun y c dd σ' ρ' H' o s p e => x y c dd σ' ρ' H' o s p (h y ρ' e)
/-- a for -/
theorem ds_for {tg iter : Expr} {ts : List Nat} {body : List Stmt} {ti : DI} {g : DG} {tb : DS} {pos : Pos} (hp : PassesOwn (model X.prog X.w) X.A X.env X.xe) (hc : X.calm = true) (hi : PI X tg iter (upI Z W ti)) (hg : PG X tg (upG Z ts g)) (hb : PSs X body (upS Z W tb))
    (hs : ∀ x, foldedSetIterable iter X.env x = pure x := by intro _; rfl) [GoodJ Z] : PS X (.For tg iter body [] pos) (upS Z W (sFor ti g tb)) := PS.wk (ps_for hp hc hi hg hb hs) fun B σ H ⟨ρ, G, DD, E, ok, h, hq, hx⟩ => by
  refine ⟨ρ, G, _, E, ok, h, fun ds ρ1 H1 J ok1 s1 it h1 => ?_, hx.e⟩
  refine ⟨fun i m σ' H' => m = ds.length - i ∧ i ≤ ds.length ∧ ∃ ρ', Ok Z σ' ρ' H' G ∧ Stp Z σ ρ1 H1 σ' ρ' H' ∧ forD g tb DD E (ds.drop i) ρ', ⟨ds.length, by simp, Nat.zero_le _, ρ1, ok1, .refl, h1⟩, ?_⟩
  rintro i m σ' H' ⟨rfl, hle, ρ', ok', s', h'⟩
  have hS : ∀ a, Hid ρ' σ' G a → ∃ o, H' a = some o := fun a z => by
    rcases z with z | ⟨j, xs, e1, e2⟩
    · obtain ⟨o, q, _⟩ := ok'.gt a z
      exact ⟨o, q⟩
    · obtain ⟨b, ws, q1, q2, _⟩ := ok'.own j xs e1
      rw [q1] at e2
      cases e2
      exact ⟨_, q2⟩
  obtain ⟨go, stop⟩ := it i H' (Hid ρ' σ' G) s'.vis hS
  by_cases hlt : i < ds.length
  · obtain ⟨hgo, hy⟩ := go hlt
    refine .inr ⟨hgo, fun σ2 H2 => ∃ ρ2, Ok Z σ2 ρ2 H2 G ∧ Stp Z σ ρ1 H1 σ2 ρ2 H2 ∧ forD g tb DD E (ds.drop (i + 1)) ρ2, fun σ2 H2 ⟨ρ2, k1, k2, k3⟩ => ⟨ds.length - (i + 1), by omega, rfl, hlt, ρ2, k1, k2, k3⟩, fun x H2 y => ?_⟩
    obtain ⟨sm, d, hd, r⟩ := hy x H2 y
    have ed : ds.drop i = d :: ds.drop (i + 1) := by
      rw [List.drop_eq_getElem_cons hlt]
      rw [List.getElem?_eq_getElem hlt] at hd
      rw [Option.some.inj hd]
    rw [ed] at h'
    have ok2 := ok'.ext sm
    refine ⟨d, ρ', G, _, ok2, r, h', fun σ3 ρ3 ok3 s3 _ q3 => ?_⟩
    have s4 : Stp Z σ' ρ' H' σ3 ρ3 H2 := (Stp.ext sm).trans s3
    refine ⟨ρ3, G, _, E, ok3, q3, fun σ5 ρ5 H5 ok5 s5 => ?_, hx.step (s1.trans (s'.trans s4))⟩
    have s6 : Stp Z σ ρ1 H1 σ5 ρ5 H5 := s'.trans (s4.trans s5)
    obtain ⟨q1, q2, q3, q4⟩ := hq σ5 ρ5 H5 ok5 (s1.trans s6)
    exact ⟨fun z => ⟨ρ5, ok5, s6, z⟩, fun z => q1 z, fun z => ⟨ρ5, ok5, s6, z⟩, q4⟩
  · have e : i = ds.length := by omega
    refine .inl ⟨stop e, ?_⟩
    rw [e, List.drop_length] at h'
    exact (hq σ' ρ' H' ok' (s1.trans s')).1 h'
theorem ds_while {c : Expr} {body : List Stmt} {tc : DT} {tb : DS} {pos : Pos} (hp : PassesOwn (model X.prog X.w) X.A X.env X.xe) (hc : PT X c (upT Z W tc)) (hb : PSs X body (upS Z W tb)) : PS X (.While c body [] pos) (upS Z W (sWhile tc tb)) :=
  PS.wk (ps_while hp hc hb) fun B σ H ⟨ρ, G, DD, E, ok, ⟨I, ⟨m0, h0⟩, turn⟩, hq, hx⟩ => by
    refine ⟨fun m σ' H' => ∃ ρ', Ok Z σ' ρ' H' G ∧ Stp Z σ ρ H σ' ρ' H' ∧ I m ρ', ⟨m0, ρ, ok, .refl, h0⟩, ?_⟩
    rintro m σ' H' ⟨ρ', ok', s', h'⟩
    refine ⟨ρ', G, _, E, ok', turn m ρ' h', fun b ρ1 H1 ok1 s1 q => ?_, (hx.step s').e⟩
    cases b with
    | true =>
      rw [if_pos rfl] at q ⊢
      refine ⟨fun σ2 H2 => ∃ m', m' < m ∧ ∃ ρ2, Ok Z σ2 ρ2 H2 G ∧ Stp Z σ ρ H σ2 ρ2 H2 ∧ I m' ρ2, fun σ2 H2 z => z, ?_⟩
      refine ⟨ρ1, G, _, E, ok1, q, fun σ5 ρ5 H5 ok5 s5 => ?_, hx.step (s'.trans s1)⟩
      have s6 : Stp Z σ ρ H σ5 ρ5 H5 := (s'.trans s1).trans s5
      obtain ⟨q1, q2, q3, q4⟩ := hq σ5 ρ5 H5 ok5 s6
      exact ⟨fun ⟨m', hm, z⟩ => ⟨m', hm, ρ5, ok5, s6, z⟩, fun z => q1 z, fun ⟨m', hm, z⟩ => ⟨m', hm, ρ5, ok5, s6, z⟩, q4⟩
    | false =>
      rw [if_neg (by decide)] at q ⊢
      exact (hq σ' ρ1 H1 ok1 (s'.trans s1)).1 q
end
/-! ### list comprehensions -/
def wipeR (ρ : Rho) : List Nat → Rho
  | [] => ρ
  | v :: vs => (wipeR ρ vs).set v .no
/-- behind an element: the comprehension's own slots as they were -/
def bakR (ρ ρe : Rho) : List Nat → Rho
  | [] => ρe
  | v :: vs => (bakR ρ ρe vs).set v (slAt ρ v)
/-- p was not there, or held -/
def Frs (σ : L2.St) (ρ : Rho) (H : Hp) (p : Addr) : Prop := ∀ o, H p = some o → ¬ Tbl o → Ow ρ σ p
/-- an expression that makes a new list -/
def upN (Z : Zx) (W : WX) (t : DA) : TE := fun σ H Q => ∃ ρ G Qd E, Ok Z σ ρ H G ∧ t ρ Qd E ∧
  (∀ ds vs p ρ' H', Ok Z σ ρ' H' (fun a => G a ∨ a = p) → Stp Z σ ρ H σ ρ' H' → Frs σ ρ H p → ¬ Hid ρ' σ G p → H' p = some (.lst vs) → RpL Z (vis H' (Hid ρ' σ fun a => G a ∨ a = p)) ds vs → Qd ds ρ' → Q (.ref p) H') ∧ XPE Z W σ ρ H G E
def lcD (g : DG) (tt : DT) (te : DE) (vs : List Nat) : List D → List D → Rho → (List D → Rho → Prop) → Prop
  | [], acc, ρ, Q => Q acc ρ
  | d :: ds, acc, ρ, Q => g d (wipeR ρ vs) fun ρ1 => tt ρ1 (fun b ρ2 => if b = true then
      te ρ2 (fun y ρ3 => lcD g tt te vs ds (acc ++ [y]) (bakR ρ ρ3 vs) Q) (fun _ _ => False) else lcD g tt te vs ds acc (bakR ρ ρ2 vs) Q) (fun _ _ => False)
def nLc (ti : DI) (g : DG) (tt : DT) (te : DE) (vs : List Nat) : DA := fun ρ Q E => (∀ v ∈ vs, heldAt ρ v = none) ∧ ti ρ (fun ds ρ' => (ds.length ≤ LIM ∧ ∀ v ∈ vs, heldAt ρ' v = none) ∧ lcD g tt te vs ds [] ρ' Q) E
/-- a new list as a value -/
def dOfN (t : DA) : DE := fun ρ Q E => t ρ (fun ds ρ' => Q (.lst ds) ρ') E
def tYesD : DT := fun ρ Q _ => Q true ρ
theorem slAt_wipe {ρ : Rho} : ∀ (vs : List Nat) (j : Nat), slAt (wipeR ρ vs) j = if j ∈ vs then .no else slAt ρ j
  | [], j => by simp [wipeR]
  | v :: vs, j => by
    have hl : (wipeR ρ vs).length = ρ.length := by
      clear j
      induction vs with
      | nil => rfl
      | cons w ws ih => unfold wipeR; rw [List.length_set, ih]
    unfold wipeR
    rw [slAt_set, slAt_wipe vs j]
    by_cases h : v = j
    · subst h
      by_cases k : v < ρ.length
      · simp [hl, k]
      · simp only [hl, k, and_false, if_false, List.mem_cons, true_or, if_true]
        split
        · rfl
        · exact Classical.byContradiction fun z => k (slAt_lt z)
    · have h' : ¬ j = v := fun z => h z.symm
      simp [h, h']
theorem wipeR_len {ρ : Rho} : ∀ vs : List Nat, (wipeR ρ vs).length = ρ.length
  | [] => rfl
  | v :: vs => by unfold wipeR; rw [List.length_set, wipeR_len vs]
theorem bakR_len {ρ ρe : Rho} : ∀ vs : List Nat, (bakR ρ ρe vs).length = ρe.length
  | [] => rfl
  | v :: vs => by unfold bakR; rw [List.length_set, bakR_len vs]
theorem slAt_bak {ρ ρe : Rho} (hl : ρ.length = ρe.length) : ∀ (vs : List Nat) (j : Nat), slAt (bakR ρ ρe vs) j = if j ∈ vs then slAt ρ j else slAt ρe j
  | [], j => by simp [bakR]
  | v :: vs, j => by
    unfold bakR
    rw [slAt_set, slAt_bak hl vs j, bakR_len]
    by_cases h : v = j
    · subst h
      by_cases k : v < ρe.length
      · simp [k]
      · have e1 : slAt ρ v = .no := Classical.byContradiction fun z => k (by rw [← hl]; exact slAt_lt z)
        have e2 : slAt ρe v = .no := Classical.byContradiction fun z => k (slAt_lt z)
        simp [k, e1, e2]
    · have h' : ¬ j = v := fun z => h z.symm
      simp [h, h']
theorem wipe_at {σ : L2.St} : ∀ (vs : List Nat) (j : Nat), (L2.wipe σ vs)[j]? = if j ∈ vs then (if j < σ.length then some none else none) else σ[j]?
  | [], j => by simp [L2.wipe]
  | v :: vs, j => by
    unfold L2.wipe
    rw [List.getElem?_set, wipe_at vs j, L2.wipe_length]
    by_cases h : v = j
    · subst h
      by_cases k : v < σ.length <;> simp [k]
    · have h' : ¬ j = v := fun z => h z.symm
      simp [h, h']
section
variable {X : Cx} {Z : Zx} {W : WX} {σ : L2.St} {ρ : Rho} {H : Hp} {G : Addr → Prop}
theorem Ok.held_tr (k : Ok Z σ ρ H G) : ∀ a, Hid ρ σ G a → ∃ o, H a = some o := fun a z => by
  rcases z with z | ⟨j, xs, e1, e2⟩
  · obtain ⟨o, q, _⟩ := k.gt a z
    exact ⟨o, q⟩
  · obtain ⟨b, ws, q1, q2, _⟩ := k.own j xs e1
    rw [q1] at e2
    cases e2
    exact ⟨_, q2⟩
/-- the slots of a comprehension forgotten -/
theorem Ok.wiped {vs : List Nat} (k : Ok Z σ ρ H G) (hv : ∀ v ∈ vs, heldAt ρ v = none) : Ok Z (L2.wipe σ vs) (wipeR ρ vs) H G ∧ Hid (wipeR ρ vs) (L2.wipe σ vs) G = Hid ρ σ G := by
  have held : ∀ j xs, heldAt (wipeR ρ vs) j = some xs ↔ heldAt ρ j = some xs := fun j xs => by
    unfold heldAt
    rw [slAt_wipe]
    by_cases h : j ∈ vs
    · have := hv j h
      unfold heldAt at this
      rw [if_pos h, this]
      exact ⟨(fun z => by cases z), (fun z => by cases z)⟩
    · rw [if_neg h]
  have sg : ∀ j xs, heldAt ρ j = some xs → (L2.wipe σ vs)[j]? = σ[j]? := fun j xs e => by
    rw [wipe_at, if_neg fun z => by rw [hv j z] at e; cases e]
  have ow : ∀ a, Ow (wipeR ρ vs) (L2.wipe σ vs) a ↔ Ow ρ σ a := fun a =>
    ⟨fun ⟨j, xs, e1, e2⟩ => ⟨j, xs, (held j xs).mp e1, by rw [← sg j xs ((held j xs).mp e1)]; exact e2⟩, fun ⟨j, xs, e1, e2⟩ => ⟨j, xs, (held j xs).mpr e1, by rw [sg j xs e1]; exact e2⟩⟩
  have eH : Hid (wipeR ρ vs) (L2.wipe σ vs) G = Hid ρ σ G := by
    funext a
    exact propext ⟨fun z => z.imp (fun z => z) (ow a).mp, fun z => z.imp (fun z => z) (ow a).mpr⟩
  refine ⟨⟨by rw [wipeR_len, L2.wipe_length]; exact k.len, fun j d e => ?_, fun j xs e => ?_, fun i j xs ys a q1 q2 q3 q4 => ?_, k.j, k.gt⟩, eH⟩
  · rw [slAt_wipe] at e
    by_cases h : j ∈ vs
    · rw [if_pos h] at e
      cases e
    · rw [if_neg h] at e
      obtain ⟨v, h1, h2⟩ := k.val j d e
      exact ⟨v, by rw [wipe_at, if_neg h]; exact h1, by rw [eH]; exact h2⟩
  · obtain ⟨a, ws, h1, h2, h3, h4⟩ := k.own j xs ((held j xs).mp e)
    exact ⟨a, ws, by rw [sg j xs ((held j xs).mp e)]; exact h1, h2, by rw [eH]; exact h3, h4⟩
  · rw [sg i xs ((held i xs).mp q1)] at q3
    rw [sg j ys ((held j ys).mp q2)] at q4
    exact k.inj i j xs ys a ((held i xs).mp q1) ((held j ys).mp q2) q3 q4
/-- behind an element: back to the slots around -/
theorem Ok.baked {vs : List Nat} {σe : L2.St} {ρe : Rho} {He : Hp} (k : Ok Z σ ρ H G) (hv : ∀ v ∈ vs, heldAt ρ v = none) (ke : Ok Z σe ρe He G) (s : Stp Z (L2.wipe σ vs) (wipeR ρ vs) H σe ρe He) (hlen : σe.length = σ.length) (oσ : ∀ j, j ∉ vs → σe[j]? = σ[j]?) :
    Ok Z σ (bakR ρ ρe vs) He G ∧ Stp Z σ ρ H σ (bakR ρ ρe vs) He ∧ Sub (vis He (Hid ρe σe G)) (vis He (Hid (bakR ρ ρe vs) σ G)) ∧ ∀ v ∈ vs, heldAt (bakR ρ ρe vs) v = none := by
  obtain ⟨kw, eH⟩ := k.wiped hv
  have hl : ρ.length = ρe.length := by
    rw [ke.len, hlen]
    exact k.len
  have at_ := slAt_bak hl vs
  have held : ∀ j xs, heldAt (bakR ρ ρe vs) j = some xs → j ∉ vs ∧ heldAt ρe j = some xs := fun j xs e => by
    unfold heldAt at e ⊢
    rw [at_] at e
    by_cases h : j ∈ vs
    · rw [if_pos h] at e
      have z := hv j h
      unfold heldAt at z
      rw [z] at e
      cases e
    · rw [if_neg h] at e
      exact ⟨h, e⟩
  have ow : ∀ a, Ow (bakR ρ ρe vs) σ a → Ow ρe σe a := fun a ⟨j, xs, e1, e2⟩ => by
    obtain ⟨h1, h2⟩ := held j xs e1
    exact ⟨j, xs, h2, by rw [oσ j h1]; exact e2⟩
  have owW : ∀ a, Ow (wipeR ρ vs) (L2.wipe σ vs) a → Ow ρ σ a := fun a ⟨j, xs, e1, e2⟩ => by
    unfold heldAt at e1
    rw [slAt_wipe] at e1
    by_cases h : j ∈ vs
    · rw [if_pos h] at e1
      cases e1
    · rw [if_neg h] at e1
      rw [wipe_at, if_neg h] at e2
      exact ⟨j, xs, e1, e2⟩
  have sub : Sub (vis He (Hid ρe σe G)) (vis He (Hid (bakR ρ ρe vs) σ G)) := vis_sub fun a o h n _ => ⟨fun z => n (z.imp (fun z => z) (ow a)), h⟩
  have sub0 : Sub (vis H (Hid ρ σ G)) (vis He (Hid (bakR ρ ρe vs) σ G)) := by
    have q : Sub (vis H (Hid (wipeR ρ vs) (L2.wipe σ vs) G)) (vis He (Hid ρe σe G)) := s.vis
    rw [eH] at q
    exact q.trans sub
  refine ⟨⟨by rw [bakR_len, ke.len, hlen], fun j d e => ?_, fun j xs e => ?_, fun i j xs ys a q1 q2 q3 q4 => ?_, ke.j, ke.gt⟩, ⟨fun a o h m n => s.keep a o h m fun z => n (owW a z), fun a o h m n z => s.out a o h m (fun z => n (owW a z)) (ow a z), fun j xs e => ⟨rfl, ?_⟩⟩, sub, fun v hm => ?_⟩
  · rw [at_] at e
    by_cases h : j ∈ vs
    · rw [if_pos h] at e
      obtain ⟨v, h1, h2⟩ := k.val j d e
      exact ⟨v, h1, h2.sub sub0⟩
    · rw [if_neg h] at e
      obtain ⟨v, h1, h2⟩ := ke.val j d e
      exact ⟨v, by rw [← oσ j h]; exact h1, h2.sub sub⟩
  · obtain ⟨h1, h2⟩ := held j xs e
    obtain ⟨a, ws, w1, w2, w3, w4⟩ := ke.own j xs h2
    exact ⟨a, ws, by rw [← oσ j h1]; exact w1, w2, w3.sub sub, w4⟩
  · obtain ⟨h1, h2⟩ := held i xs q1
    obtain ⟨h3, h4⟩ := held j ys q2
    exact ke.inj i j xs ys a h2 h4 (by rw [oσ i h1]; exact q3) (by rw [oσ j h3]; exact q4)
  · have hj : j ∉ vs := fun z => by
      have w := hv j z
      unfold heldAt at w
      rw [e] at w
      cases w
    obtain ⟨_, xs', q⟩ := s.brw j xs (by rw [slAt_wipe, if_neg hj]; exact e)
    exact ⟨xs', by rw [at_, if_neg hj]; exact q⟩
  · unfold heldAt
    rw [at_, if_pos hm]
    exact hv v hm
/-- the list that a comprehension fills is hidden meanwhile -/
theorem Ok.hide {D : Addr} {vs : List V} [GoodJ Z] (k : Ok Z σ ρ H G) (hD : H D = none) : Ok Z σ ρ (upd H D (.lst vs)) (fun a => G a ∨ a = D) ∧ vis (upd H D (.lst vs)) (Hid ρ σ fun a => G a ∨ a = D) = vis H (Hid ρ σ G) := by
  have sm := same_upd (o := .lst vs) hD
  have nD := k.fresh hD
  have eV : vis (upd H D (.lst vs)) (Hid ρ σ fun a => G a ∨ a = D) = vis H (Hid ρ σ G) := by
    funext a
    unfold vis
    by_cases h : a = D
    · subst h
      rw [if_pos (.inl (.inr rfl)), if_neg nD, hD]
    · by_cases h2 : Hid ρ σ G a
      · rw [if_pos h2, if_pos (show Hid ρ σ (fun a => G a ∨ a = D) a from h2.imp (fun z => .inl z) fun z => z)]
      · rw [if_neg h2, if_neg (fun z => z.elim (fun z => z.elim (fun z => h2 (.inl z)) h) fun z => h2 (.inr z)), upd_ne h]
  have k1 := k.ext sm
  refine ⟨⟨k.len, fun i d e => ?_, fun i xs e => ?_, k.inj, k1.j, fun a z => ?_⟩, eV⟩
  · obtain ⟨v, h1, h2⟩ := k.val i d e
    exact ⟨v, h1, by rw [eV]; exact h2⟩
  · obtain ⟨a, ws, h1, h2, h3, h4⟩ := k.own i xs e
    refine ⟨a, ws, h1, sm _ _ h2, by rw [eV]; exact h3, fun z => z.elim h4 fun z => ?_⟩
    rw [z, hD] at h2
    cases h2
  · rcases z with z | z
    · obtain ⟨o, h1, h2⟩ := k.gt a z
      exact ⟨o, sm _ _ h1, h2⟩
    · rw [z]
      exact ⟨_, upd_same, fun z => z⟩
/-- the hidden list grows -/
theorem Ok.grow {D : Addr} {vs ws : List V} [GoodJ Z] {G' : Addr → Prop} (k : Ok Z σ ρ H G') (hD : H D = some (.lst vs)) (hG : G' D) : Ok Z σ ρ (upd H D (.lst ws)) G' ∧ vis (upd H D (.lst ws)) (Hid ρ σ G') = vis H (Hid ρ σ G') := by
  have eV : vis (upd H D (.lst ws)) (Hid ρ σ G') = vis H (Hid ρ σ G') := by
    funext a
    unfold vis
    by_cases h : a = D
    · subst h
      rw [if_pos (.inl hG), if_pos (.inl hG)]
    · by_cases h2 : Hid ρ σ G' a
      · rw [if_pos h2, if_pos h2]
      · rw [if_neg h2, if_neg h2, upd_ne h]
  refine ⟨⟨k.len, fun i d e => ?_, fun i xs e => ?_, k.inj, ?_, fun a z => ?_⟩, eV⟩
  · obtain ⟨v, h1, h2⟩ := k.val i d e
    exact ⟨v, h1, by rw [eV]; exact h2⟩
  · obtain ⟨a, us, h1, h2, h3, h4⟩ := k.own i xs e
    have hne : a ≠ D := fun z => h4 (by rw [z]; exact hG)
    exact ⟨a, us, h1, by rw [upd_ne hne]; exact h2, by rw [eV]; exact h3, h4⟩
  · refine GoodJ.j H _ (fun a o h nc => ?_) k.j
    have hne : a ≠ D := fun z => by
      rw [z, hD] at h
      cases h
      exact nc trivial
    rw [upd_ne hne]
    exact h
  · by_cases h : a = D
    · rw [h]
      exact ⟨_, upd_same, fun z => z⟩
    · obtain ⟨o, h1, h2⟩ := k.gt a z
      exact ⟨o, by rw [upd_ne h]; exact h1, h2⟩
theorem PTs.wk {ifs : List Expr} {t t' : TT} (h : PTs X ifs t) (k : ∀ σ H Q, t' σ H Q → t σ H Q) : PTs X ifs t' := ⟨fun pins s σ H Q I z => h.run pins s σ H Q I (k σ H Q z)⟩
theorem dts_nil : PTs X [] (upT Z W tYesD) := PTs.wk pts_nil fun σ H Q ⟨ρ, G, Qd, E, ok, h, hq, hx⟩ => hq true ρ H ok .refl h
theorem dts_one {c : Expr} {t : DT} (h : PT X c (upT Z W t)) : PTs X [c] (upT Z W t) := pts_one h
/-- nothing is wished of an exception -/
abbrev W0 : WX := fun _ _ _ _ => False
theorem XPE.none {E : EQ} (h : ∀ x ρ, E x ρ → False) : XPE Z W σ ρ H G E := fun x c dd ρ' H' _ _ _ e => (h x ρ' e).elim
theorem wipe_eq {vs : List Nat} {σ2 : L2.St} (hl : σ2.length = σ.length) (h : ∀ j, j ∉ vs → σ2[j]? = σ[j]?) : L2.wipe σ2 vs = L2.wipe σ vs := by
  apply List.ext_getElem?
  intro j
  rw [wipe_at, wipe_at, hl]
  by_cases q : j ∈ vs
  · rw [if_pos q, if_pos q]
  · rw [if_neg q, if_neg q, h j q]
theorem Ok.shown {p : Addr} {vs : List V} (k : Ok Z σ ρ H fun a => G a ∨ a = p) : Ok Z σ ρ H G ∧ Sub (vis H (Hid ρ σ fun a => G a ∨ a = p)) (vis H (Hid ρ σ G)) := by
  have sub : Sub (vis H (Hid ρ σ fun a => G a ∨ a = p)) (vis H (Hid ρ σ G)) := vis_sub fun a o h n _ => ⟨fun z => n (z.imp .inl fun z => z), h⟩
  exact ⟨⟨k.len, fun j d e => by
      obtain ⟨v, w1, w2⟩ := k.val j d e
      exact ⟨v, w1, w2.sub sub⟩, fun j xs e => by
      obtain ⟨b, us, w1, w2, w3, w4⟩ := k.own j xs e
      exact ⟨b, us, w1, w2, w3.sub sub, fun z => w4 (.inl z)⟩, k.inj, k.j, fun a z => k.gt a (.inl z)⟩, sub⟩
theorem up_ofN {t : DA} (σ : L2.St) (H : Hp) (Q : VK) (h : upE Z W (dOfN t) σ H Q) : upN Z W t σ H Q := by
  obtain ⟨ρ, G, Qd, E, ok, h, hq, hx⟩ := h
  refine ⟨ρ, G, _, E, ok, h, fun ds vs p ρ1 H1 ok1 s1 fr nh hp r q => ?_, hx⟩
  obtain ⟨k1, k2⟩ := ok1.shown (vs := vs)
  exact hq (.lst ds) (.ref p) ρ1 H1 k1 s1 ⟨p, vs, rfl, vis_some.mpr ⟨nh, hp⟩, r.sub k2⟩ q
theorem up_lcN [GoodJ Z] {ti : DI} {ts : List Nat} {g : DG} {tt : DT} {te : DE} {vs : List Nat} (hts : ∀ i ∈ ts, i ∈ vs) (σ : L2.St) (H : Hp) (Q : VK) (h : upN Z W (nLc ti g tt te vs) σ H Q) :
    tLc (upI Z W ti) (upG Z ts g) (upT Z W0 tt) (upE Z W0 te) vs σ H Q := by
  obtain ⟨ρ, G, Qd, E, ok, ⟨_, h⟩, hq, hx⟩ := h
  refine ⟨ρ, G, _, E, ok, h, fun ds ρ1 H1 J ok1 s1 it h1 => ?_, hx⟩
  obtain ⟨⟨hz, hv⟩, h1⟩ := h1
  intro L hL
  obtain ⟨okh, eVh⟩ := ok1.hide (vs := []) hL
  have nL := ok1.fresh hL
  refine ⟨fun i m H' => m = ds.length - i ∧ i ≤ ds.length ∧ ∃ ρ' acc ws, Ok Z σ ρ' H' (fun a => G a ∨ a = L) ∧ H' L = some (.lst ws) ∧ ws.length ≤ i ∧ RpL Z (vis H' (Hid ρ' σ fun a => G a ∨ a = L)) acc ws ∧
    Stp Z σ ρ1 (upd H1 L (.lst [])) σ ρ' (upd H' L (.lst [])) ∧ (∀ v ∈ vs, heldAt ρ' v = none) ∧ lcD g tt te vs (ds.drop i) acc ρ' Qd,
    ⟨ds.length, by simp, Nat.zero_le _, ρ1, [], [], okh, upd_same, Nat.le_refl _, trivial, by rw [upd_upd]; exact .refl, hv, h1⟩, ?_⟩
  rintro i m H' ⟨rfl, hle, ρ', acc, ws, ok', hL', hw, ra, s', hv', h'⟩
  have keep1 : ∀ a o, H1 a = some o → ¬ Tbl o → ¬ Ow ρ1 σ a → H' a = some o ∧ ¬ Ow ρ' σ a := fun a o h n m => by
    have hne : a ≠ L := ne_of_none h hL
    have q1 := s'.keep a o (by rw [upd_ne hne]; exact h) n m
    rw [upd_ne hne] at q1
    exact ⟨q1, s'.out a o (by rw [upd_ne hne]; exact h) n m⟩
  have subA : Sub (vis H1 (Hid ρ1 σ G)) (vis H' (Hid ρ' σ fun a => G a ∨ a = L)) := vis_sub fun a o h n m => by
    obtain ⟨q1, q2⟩ := keep1 a o h m fun z => n (.inr z)
    exact ⟨fun z => z.elim (fun z => z.elim (fun z => n (.inl z)) (ne_of_none h hL)) q2, q1⟩
  obtain ⟨go, stop⟩ := it i H' _ subA ok'.held_tr
  by_cases hlt : i < ds.length
  · obtain ⟨hgo, hy⟩ := go hlt
    refine .inr ⟨hgo, fun H2 => ∃ ρ2 acc2 ws2, Ok Z σ ρ2 H2 (fun a => G a ∨ a = L) ∧ H2 L = some (.lst ws2) ∧ ws2.length ≤ i + 1 ∧ RpL Z (vis H2 (Hid ρ2 σ fun a => G a ∨ a = L)) acc2 ws2 ∧
      Stp Z σ ρ1 (upd H1 L (.lst [])) σ ρ2 (upd H2 L (.lst [])) ∧ (∀ v ∈ vs, heldAt ρ2 v = none) ∧ lcD g tt te vs (ds.drop (i + 1)) acc2 ρ2 Qd, fun H2 z => ⟨ds.length - (i + 1), by omega, rfl, hlt, z⟩, fun x H2 y => ?_⟩
    obtain ⟨sm, d, hd, r⟩ := hy x H2 y
    have ed : ds.drop i = d :: ds.drop (i + 1) := by
      rw [List.drop_eq_getElem_cons hlt]
      rw [List.getElem?_eq_getElem hlt] at hd
      rw [Option.some.inj hd]
    rw [ed] at h'
    have ok2 := ok'.ext sm
    obtain ⟨okw, eHw⟩ := ok2.wiped hv'
    refine ⟨d, _, _, _, okw, by rw [eHw]; exact r, h', fun σ3 ρ3 ok3 s3 o3 q3 => ?_⟩
    have o3' : ∀ j, j ∉ vs → σ3[j]? = σ[j]? := fun j hj => by
      rw [(o3.2 j fun z => hj (hts j z)).1, wipe_at, if_neg hj]
    have l3 : σ3.length = σ.length := o3.1.trans (L2.wipe_length σ vs)
    refine ⟨wipe_eq l3 o3', ρ3, _, _, _, ok3, q3, fun b ρ4 H4 ok4 s4 q4 => ?_, XPE.none fun _ _ z => z⟩
    have s34 := s3.trans s4
    have fin : ∀ {ρ5 : Rho} {H5 : Hp}, Ok Z σ3 ρ5 H5 (fun a => G a ∨ a = L) → Stp Z (L2.wipe σ vs) (wipeR ρ' vs) H2 σ3 ρ5 H5 → H5 L = some (.lst ws) ∧ Ok Z σ (bakR ρ' ρ5 vs) H5 (fun a => G a ∨ a = L) ∧ Sub (vis H5 (Hid ρ5 σ3 fun a => G a ∨ a = L)) (vis H5 (Hid (bakR ρ' ρ5 vs) σ fun a => G a ∨ a = L)) ∧
        (∀ v ∈ vs, heldAt (bakR ρ' ρ5 vs) v = none) ∧ RpL Z (vis H5 (Hid (bakR ρ' ρ5 vs) σ fun a => G a ∨ a = L)) acc ws ∧ ∀ H6 : Hp, (∀ a, a ≠ L → H6 a = H5 a) → Stp Z σ ρ1 (upd H1 L (.lst [])) σ (bakR ρ' ρ5 vs) (upd H6 L (.lst [])) := fun {ρ5 H5} ok5 s5 => by
      obtain ⟨b1, b2, b3, b4⟩ := ok2.baked hv' ok5 s5 l3 o3'
      have nOwL : ¬ Ow ρ' σ L := fun ⟨j, xs, e1, e2⟩ => by
        obtain ⟨b, us, w1, w2, w3, w4⟩ := ok'.own j xs e1
        rw [w1] at e2
        cases e2
        exact w4 (.inr rfl)
      refine ⟨b2.keep L _ (sm _ _ hL') (fun z => z) nOwL, b1, b3, b4, ra.sub ((vis_ext sm).trans b2.vis), fun H6 e6 => ?_⟩
      refine ⟨fun a o h n m => ?_, fun a o h n m => ?_, fun j xs e => ?_⟩
      · by_cases hne : a = L
        · rw [hne, upd_same] at h ⊢
          exact h
        · rw [upd_ne hne] at h ⊢
          obtain ⟨q1, q2⟩ := keep1 a o h n m
          rw [e6 a hne]
          exact b2.keep a o (sm _ _ q1) n q2
      · by_cases hne : a = L
        · intro z
          rw [hne] at z
          exact b2.out L _ (sm _ _ hL') (fun z => z) nOwL z
        · rw [upd_ne hne] at h
          obtain ⟨q1, q2⟩ := keep1 a o h n m
          exact b2.out a o (sm _ _ q1) n q2
      · obtain ⟨_, xs1, w1⟩ := s'.brw j xs e
        obtain ⟨_, xs2, w2⟩ := b2.brw j xs1 w1
        exact ⟨rfl, xs2, w2⟩
    cases b with
    | true =>
      rw [if_pos rfl] at q4
      refine iteT ?_
      refine ⟨ρ4, _, _, _, ok4, q4, fun y u ρ5 H5 ok5 s5 r5 q5 => ?_, XPE.none fun _ _ z => z⟩
      obtain ⟨f1, f2, f3, f4, f5, f6⟩ := fin ok5 (s34.trans s5)
      obtain ⟨g1, g2⟩ := f2.grow (ws := ws ++ [u]) f1 (.inr rfl)
      refine ⟨ws, f1, ?_, bakR ρ' ρ5 vs, acc ++ [y], ws ++ [u], g1, upd_same, by rw [List.length_append, List.length_singleton]; omega, ?_, f6 _ (fun a h => upd_ne h), f4, q5⟩
      · have := LIM_le
        have : (LIM : Nat) = 1000000 := rfl
        omega
      · rw [g2]
        exact f5.append ⟨r5.sub f3, trivial⟩
    | false =>
      rw [if_neg (by decide)] at q4
      refine iteF ?_
      obtain ⟨f1, f2, f3, f4, f5, f6⟩ := fin ok4 s34
      exact ⟨bakR ρ' ρ4 vs, acc, ws, f2, f1, by omega, f5, f6 _ (fun _ _ => rfl), f4, q4⟩
  · have e : i = ds.length := by omega
    refine .inl ⟨stop e, ?_⟩
    rw [e, List.drop_length] at h'
    have nOwL : ¬ Ow ρ' σ L := fun ⟨j, xs, e1, e2⟩ => by
      obtain ⟨b, us, w1, w2, w3, w4⟩ := ok'.own j xs e1
      rw [w1] at e2
      cases e2
      exact w4 (.inr rfl)
    have nHL : ¬ Hid ρ' σ G L := fun z => z.elim (fun z => nL (.inl z)) nOwL
    have sF : Stp Z σ ρ1 H1 σ ρ' H' := ⟨fun a o h n m => (keep1 a o h n m).1, fun a o h n m => (keep1 a o h n m).2, fun j xs e => s'.brw j xs e⟩
    refine hq acc ws L ρ' H' ok' (s1.trans sF) (fun o ho hn => Classical.byContradiction fun z => ?_) nHL hL' ra h'
    have q := s1.keep L o ho hn z
    rw [hL] at q
    cases q
instance fit_blk {s : Shared} {H : Hp} {scope : Scope} {cenv : Env} {fp : List Addr} [F : Fit X Z] : Fit (X.blk s H scope cenv fp) Z := ⟨F.K, F.mg⟩
instance fit_tr {pn : List (Addr × Obj)} {xe : Value → Shared → Prop} [F : Fit X Z] : Fit (X.tr pn xe) Z := ⟨F.K, F.mg⟩
instance fit_wish {xe : Value → Shared → Prop} [F : Fit X Z] : Fit (X.wish xe) Z := ⟨F.K, F.mg⟩
end
end TS
set_option Elab.async false
set_option linter.all false
set_option maxRecDepth 100000
set_option maxHeartbeats 4000000
set_option exponentiation.threshold 10000
namespace TS
open PySem PySem.Spec PyProof.Rows L2
/-! ### displays -/
def dTupL (t : DA) : DE := fun ρ Q E => t ρ (fun ds ρ' => ds.length ≤ LIM ∧ Q (.tup ds) ρ') E
def nLst (t : DA) : DA := fun ρ Q E => t ρ (fun ds ρ' => ds.length ≤ LIM ∧ Q ds ρ') E
section
variable {X : Cx} {Z : Zx} {W : WX} {σ : L2.St} {ρ : Rho} {H : Hp} {G : Addr → Prop}
theorem de_tup [GoodJ Z] {es : List Expr} {k : Nat} {t : DA} {pos : Pos} (ha : PA X es (upA Z W t)) : PE X (.Tuple es k pos) (upE Z W (dTupL t)) := PE.wk (pe_tup ha) fun σ H Q ⟨ρ, G, Qd, E, ok, h, hq, hx⟩ => by
  refine ⟨ρ, G, _, E, ok, h, fun ds vs ρ1 H1 ok1 s1 r1 h1 => ⟨by rw [← r1.len]; exact Nat.le_trans h1.1 LIM_le, fun p hp => ?_⟩, hx⟩
  exact hq (.tup ds) (.ref p) ρ1 _ (ok1.ext (same_upd hp)) (s1.trans (.ext (same_upd hp))) ⟨p, vs, rfl, .of (ok1.freshV hp), r1.sub (vis_ext (same_upd hp))⟩ h1.2
/-- a new list laid by a constructor -/
theorem Ok.laid [GoodJ Z] {p : Addr} {ds : List D} {vs : List V} (k : Ok Z σ ρ H G) (hp : H p = none) (r : RpL Z (vis H (Hid ρ σ G)) ds vs) :
    Ok Z σ ρ (upd H p (.lst vs)) (fun a => G a ∨ a = p) ∧ ¬ Hid ρ σ G p ∧ RpL Z (vis (upd H p (.lst vs)) (Hid ρ σ fun a => G a ∨ a = p)) ds vs := by
  obtain ⟨k1, k2⟩ := k.hide (vs := vs) hp
  exact ⟨k1, k.fresh hp, by rw [k2]; exact r⟩
theorem Stp.frs {σ1 : L2.St} {ρ1 : Rho} {H1 : Hp} {p : Addr} (s : Stp Z σ ρ H σ1 ρ1 H1) (hp : H1 p = none) : Frs σ ρ H p := fun o ho hn => Classical.byContradiction fun z => by
  have q := s.keep p o ho hn z
  rw [hp] at q
  cases q
theorem de_lstN [GoodJ Z] {es : List Expr} {t : DA} {pos : Pos} (ha : PA X es (upA Z W t)) : PE X (.List es pos) (upN Z W (nLst t)) := PE.wk (pe_lst ha) fun σ H Q ⟨ρ, G, Qd, E, ok, h, hq, hx⟩ => by
  refine ⟨ρ, G, _, E, ok, h, fun ds vs ρ1 H1 ok1 s1 r1 h1 => ⟨by rw [← r1.len]; exact Nat.le_trans h1.1 LIM_le, fun p hp => ?_⟩, hx⟩
  obtain ⟨k1, k2, k3⟩ := ok1.laid hp r1
  exact hq ds vs p ρ1 _ k1 (s1.trans (.ext (same_upd hp))) (s1.frs hp) k2 upd_same k3 h1.2
/-- a new list, as a value -/
theorem de_ofN {e : Expr} {t : DA} (h : PE X e (upN Z W t)) : PE X e (upE Z W (dOfN t)) := PE.wk h up_ofN
/-- list(e) -/
def nList (t : DA) : DA := fun ρ Q E => t ρ (fun ds ρ' => match ds with
  | [.tup xs] => Q xs ρ'
  | [.lst xs] => Q xs ρ'
  | _ => False) E
theorem de_listN [GoodJ Z] [F : Fit X Z] {e : Expr} {t : DA} {p pos : Pos} (hm : Z.mg "list" = none) (ha : PA X [e] (upA Z W t)) (hg : Gl X "list" := by rfl)
    (he : starEach [e] X.env = (false, eval e X.env) :: starEach [] X.env := by rfl) (hpl : (backTo pos (starEach [] X.env)).any (·.1) = false := by rfl) :
    PE X (.Call (.Name "list" p) [e] [] pos) (upN Z W (nList t)) := PE.wk (pe_callTy call_list_of hg (by rw [F.mg]; exact hm) boot_list ha (by decide) (by decide) he hpl) fun σ H Q ⟨ρ, G, Qd, E, ok, h, hq, hx⟩ => by
  refine ⟨ρ, G, _, E, ok, h, fun ds vs ρ1 H1 ok1 s1 r1 h1 => ?_, hx⟩
  rw [F.K]
  split at h1
  · obtain ⟨v, rfl, a, ws, rfl, q, r⟩ := r1.one
    refine ⟨a, ws, rfl, .inr (vis_sqT q), fun p hp => ?_⟩
    obtain ⟨k1, k2, k3⟩ := ok1.laid hp r
    exact hq _ ws p ρ1 _ k1 (s1.trans (.ext (same_upd hp))) (s1.frs hp) k2 upd_same k3 h1
  · obtain ⟨v, rfl, a, ws, rfl, q, r⟩ := r1.one
    refine ⟨a, ws, rfl, .inl (.of (vis_some.mp q).2), fun p hp => ?_⟩
    obtain ⟨k1, k2, k3⟩ := ok1.laid hp r
    exact hq _ ws p ρ1 _ k1 (s1.trans (.ext (same_upd hp))) (s1.frs hp) k2 upd_same k3 h1
  · exact h1.elim
/-! ### comprehensions -/
theorem de_lcN [GoodJ Z] {elt tg iter : Expr} {ifs : List Expr} {scope : Scope} {own : List (Str × Nat)} {ts : List Nat} {pos : Pos} {ti : DI} {g : DG} {tt : DT} {te : DE} (hc : X.calm = true) (hN : X.N.Nodup) (ok : BlkOk X.N X.env.scope scope own) (hi : PI X tg iter (upI Z W ti))
    (hg : ∀ (s : Shared) (H : Hp) (C : Addr) (cl : List (Str × Addr)) (fp : List Addr), PG (X.blk s H scope (compEnvC scope cl C X.env) fp) tg (upG Z ts g))
    (ht : ∀ (s : Shared) (H : Hp) (C : Addr) (cl : List (Str × Addr)) (fp : List Addr), PTs (X.blk s H scope (compEnvC scope cl C X.env) fp) ifs (upT Z W0 tt))
    (he : ∀ (s : Shared) (H : Hp) (C : Addr) (cl : List (Str × Addr)) (fp : List Addr), PE (X.blk s H scope (compEnvC scope cl C X.env) fp) elt (upE Z W0 te))
    (hts : ∀ i ∈ ts, i ∈ own.map (·.2) := by decide) (hs : ∀ x, foldedSetIterable iter X.env x = pure x := by intro _; rfl) :
    PE X (.ListComp elt [⟨tg, iter, ifs, 0⟩] scope pos) (upN Z W (nLc ti g tt te (own.map (·.2)))) := PE.wk (pe_lc hc hN hi ok hg ht he hs) (up_lcN hts)
/-- name = [..], the name a plain local: a value, or one's own -/
theorem ds_setLc [GoodJ Z] {i : Nat} {y : Str} {py : Pos} {elt tg iter : Expr} {ifs : List Expr} {scope : Scope} {own : List (Str × Nat)} {ts : List Nat} {pos spos : Pos} {ti : DI} {g : DG} {tt : DT} {te : DE} (hc : X.calm = true) (hN : X.N.Nodup) (ok : BlkOk X.N X.env.scope scope own) (hi : PI X tg iter (upI Z W ti))
    (hg : ∀ (s : Shared) (H : Hp) (C : Addr) (cl : List (Str × Addr)) (fp : List Addr), PG (X.blk s H scope (compEnvC scope cl C X.env) fp) tg (upG Z ts g))
    (ht : ∀ (s : Shared) (H : Hp) (C : Addr) (cl : List (Str × Addr)) (fp : List Addr), PTs (X.blk s H scope (compEnvC scope cl C X.env) fp) ifs (upT Z W0 tt))
    (he : ∀ (s : Shared) (H : Hp) (C : Addr) (cl : List (Str × Addr)) (fp : List Addr), PE (X.blk s H scope (compEnvC scope cl C X.env) fp) elt (upE Z W0 te))
    (hsw : swapsWith (.ListComp elt [⟨tg, iter, ifs, 0⟩] scope pos) (some (.Name y py)) spos.line X.env = pure true) (hy : X.N[i]? = some y := by rfl) (hyl : X.env.scope.names.lookup y = some .local := by rfl)
    (hts : ∀ i ∈ ts, i ∈ own.map (·.2) := by decide) (hs : ∀ x, foldedSetIterable iter X.env x = pure x := by intro _; rfl) :
    PS X (.Assign [.Name y py] (.ListComp elt [⟨tg, iter, ifs, 0⟩] scope pos) spos) (upS Z W (sAsg (dOfN (nLc ti g tt te (own.map (·.2)))) (gNm i))) :=
  PS.wk (ps_setLc hc hN hy hyl hsw hi ok hg ht he hs) fun B σ H ⟨ρ, G, DD, E, ok, h, hq, hx⟩ => up_lcN hts σ H _ (up_ofN σ H _ ⟨ρ, G, _, E, ok, h, fun d v ρ1 H1 ok1 s1 r1 h1 => by
    obtain ⟨k1, k2⟩ := ok1.set r1 h1.1
    exact (hq _ _ H1 k1 (s1.trans k2)).1 h1.2, hx.e⟩)
/-! ### lists of one's own -/
def sOwn (i : Nat) (t : DA) : DS := fun B E ρ => t ρ (fun ds ρ' => nb (slAt ρ' i) ∧ i < ρ'.length ∧ B.nx (ρ'.set i (.own ds))) E
theorem Ok.take {i : Nat} {p : Addr} {ds : List D} {vs : List V} {σ1 : L2.St} {ρ1 : Rho} {H1 : Hp} (k : Ok Z σ1 ρ1 H1 fun a => G a ∨ a = p) (s : Stp Z σ ρ H σ1 ρ1 H1) (fr : Frs σ ρ H p) (nh : ¬ Hid ρ1 σ1 G p) (hp : H1 p = some (.lst vs)) (r : RpL Z (vis H1 (Hid ρ1 σ1 fun a => G a ∨ a = p)) ds vs) (hb : nb (slAt ρ1 i)) (hi : i < ρ1.length) :
    Ok Z (σ1.set i (some (.ref p))) (ρ1.set i (.own ds)) H1 G ∧ Stp Z σ ρ H (σ1.set i (some (.ref p))) (ρ1.set i (.own ds)) H1 := by
  have hiσ : i < σ1.length := by
    have := k.len
    omega
  have sg : ∀ j, i ≠ j → (σ1.set i (some (V.ref p)))[j]? = σ1[j]? := fun j q => List.getElem?_set_ne q
  have sgi : (σ1.set i (some (V.ref p)))[i]? = some (some (.ref p)) := List.getElem?_set_self hiσ
  have held : ∀ j xs, heldAt (ρ1.set i (.own ds)) j = some xs → (i = j ∧ xs = ds) ∨ (i ≠ j ∧ heldAt ρ1 j = some xs) := fun j xs e => by
    unfold heldAt at e ⊢
    rw [slAt_set] at e
    by_cases q : i = j
    · subst q
      rw [if_pos ⟨rfl, hi⟩] at e
      cases e
      exact .inl ⟨rfl, rfl⟩
    · rw [if_neg (fun z => q z.1)] at e
      exact .inr ⟨q, e⟩
  have ow : ∀ a, Ow (ρ1.set i (.own ds)) (σ1.set i (some (.ref p))) a → a = p ∨ Ow ρ1 σ1 a := fun a ⟨j, xs, e1, e2⟩ => by
    rcases held j xs e1 with ⟨q, _⟩ | ⟨q, e3⟩
    · rw [← q, sgi] at e2
      cases e2
      exact .inl rfl
    · rw [sg j q] at e2
      exact .inr ⟨j, xs, e3, e2⟩
  have sub : Sub (vis H1 (Hid ρ1 σ1 fun a => G a ∨ a = p)) (vis H1 (Hid (ρ1.set i (.own ds)) (σ1.set i (some (.ref p))) G)) := vis_sub fun a o h n _ => ⟨fun z => by
    rcases z with z | z
    · exact n (.inl (.inl z))
    · rcases ow a z with z | z
      · exact n (.inl (.inr z))
      · exact n (.inr z), h⟩
  refine ⟨⟨by rw [List.length_set, List.length_set]; exact k.len, fun j e q => ?_, fun j xs q => ?_, fun j l xs ys a q1 q2 q3 q4 => ?_, k.j, fun a z => k.gt a (.inl z)⟩, ⟨s.keep, fun a o h n m z => ?_, fun j xs q => ?_⟩⟩
  · rw [slAt_set] at q
    by_cases w : i = j
    · subst w
      rw [if_pos ⟨rfl, hi⟩] at q
      cases q
    · rw [if_neg (fun z => w z.1)] at q
      obtain ⟨u, h1, h2⟩ := k.val j e q
      exact ⟨u, by rw [sg j w]; exact h1, h2.sub sub⟩
  · rcases held j xs q with ⟨e0, rfl⟩ | ⟨q, e3⟩
    · subst e0
      exact ⟨p, vs, sgi, hp, r.sub sub, fun z => nh (.inl z)⟩
    · obtain ⟨a, ws, h1, h2, h3, h4⟩ := k.own j xs e3
      exact ⟨a, ws, by rw [sg j q]; exact h1, h2, h3.sub sub, fun z => h4 (.inl z)⟩
  · have np : ∀ j xs, heldAt ρ1 j = some xs → σ1[j]? ≠ some (some (.ref p)) := fun j xs e z => nh (.inr ⟨j, xs, e, z⟩)
    rcases held j xs q1 with ⟨w1, _⟩ | ⟨w1, e1⟩
    · rcases held l ys q2 with ⟨w2, _⟩ | ⟨w2, e2⟩
      · exact w1.symm.trans w2
      · rw [← w1, sgi] at q3
        cases q3
        rw [sg l w2] at q4
        exact absurd q4 (np l ys e2)
    · rcases held l ys q2 with ⟨w2, _⟩ | ⟨w2, e2⟩
      · rw [← w2, sgi] at q4
        cases q4
        rw [sg j w1] at q3
        exact absurd q3 (np j xs e1)
      · rw [sg j w1] at q3
        rw [sg l w2] at q4
        exact k.inj j l xs ys a e1 e2 q3 q4
  · rcases ow a z with z | z
    · subst z
      exact m (fr o h n)
    · exact s.out a o h n m z
  · obtain ⟨e1, xs', e2⟩ := s.brw j xs q
    have w : i ≠ j := fun z => by
      subst z
      rw [e2] at hb
      exact hb
    exact ⟨(sg j w).trans e1, xs', by rw [slAt_set, if_neg (fun z => w z.1)]; exact e2⟩
theorem take_sub {i : Nat} {p : Addr} {ds : List D} {ρ1 : Rho} {H1 : Hp} (hi : i < ρ1.length) (hl : ρ1.length = σ.length) : Sub (vis H1 (Hid ρ1 σ fun a => G a ∨ a = p)) (vis H1 (Hid (ρ1.set i (.own ds)) (σ.set i (some (.ref p))) G)) := vis_sub fun a o h n _ => ⟨fun z => by
  rcases z with z | ⟨j, xs, e1, e2⟩
  · exact n (.inl (.inl z))
  · by_cases q : i = j
    · subst q
      rw [List.getElem?_set_self (by omega)] at e2
      cases e2
      exact n (.inl (.inr rfl))
    · unfold heldAt at e1
      rw [slAt_set, if_neg (fun z => q z.1)] at e1
      rw [List.getElem?_set_ne q] at e2
      exact n (.inr ⟨j, xs, e1, e2⟩), h⟩
theorem ds_own {i : Nat} {x : Str} {e : Expr} {t : DA} {pos pos' : Pos} (hN : X.N.Nodup) (he : PE X e (upN Z W t)) (hi : X.N[i]? = some x := by rfl) (hx : Loc X.env.scope x := by first | exact Or.inl rfl | exact Or.inr rfl)
    (hs : swapsWith e (some (.Name x pos')) pos.line X.env = pure false := by rfl) (hf : X.fn x = true ∨ X.env.scope.names.lookup x = some .local := by first | exact .inl rfl | exact .inr rfl) :
    PS X (.Assign [.Name x pos'] e pos) (upS Z W (sOwn i t)) := PS.wk (ps_set hN hi hx he hs hf) fun B σ H ⟨ρ, G, DD, E, ok, h, hq, hx⟩ =>
  ⟨ρ, G, _, E, ok, h, fun ds vs p ρ1 H1 ok1 s1 fr nh hp r1 h1 => by
    obtain ⟨k1, k2⟩ := ok1.take s1 fr nh hp r1 h1.1 h1.2.1
    exact (hq _ _ H1 k1 k2).1 h1.2.2, hx.e⟩
theorem ds_ownLc [GoodJ Z] {i : Nat} {y : Str} {py : Pos} {elt tg iter : Expr} {ifs : List Expr} {scope : Scope} {own : List (Str × Nat)} {ts : List Nat} {pos spos : Pos} {ti : DI} {g : DG} {tt : DT} {te : DE} (hc : X.calm = true) (hN : X.N.Nodup) (ok : BlkOk X.N X.env.scope scope own) (hi : PI X tg iter (upI Z W ti))
    (hg : ∀ (s : Shared) (H : Hp) (C : Addr) (cl : List (Str × Addr)) (fp : List Addr), PG (X.blk s H scope (compEnvC scope cl C X.env) fp) tg (upG Z ts g))
    (ht : ∀ (s : Shared) (H : Hp) (C : Addr) (cl : List (Str × Addr)) (fp : List Addr), PTs (X.blk s H scope (compEnvC scope cl C X.env) fp) ifs (upT Z W0 tt))
    (he : ∀ (s : Shared) (H : Hp) (C : Addr) (cl : List (Str × Addr)) (fp : List Addr), PE (X.blk s H scope (compEnvC scope cl C X.env) fp) elt (upE Z W0 te))
    (hsw : swapsWith (.ListComp elt [⟨tg, iter, ifs, 0⟩] scope pos) (some (.Name y py)) spos.line X.env = pure true) (hy : X.N[i]? = some y := by rfl) (hyl : X.env.scope.names.lookup y = some .local := by rfl)
    (hts : ∀ i ∈ ts, i ∈ own.map (·.2) := by decide) (hs : ∀ x, foldedSetIterable iter X.env x = pure x := by intro _; rfl) :
    PS X (.Assign [.Name y py] (.ListComp elt [⟨tg, iter, ifs, 0⟩] scope pos) spos) (upS Z W (sOwn i (nLc ti g tt te (own.map (·.2))))) :=
  PS.wk (ps_setLc hc hN hy hyl hsw hi ok hg ht he hs) fun B σ H ⟨ρ, G, DD, E, ok, h, hq, hx⟩ => up_lcN hts σ H _ ⟨ρ, G, _, E, ok, h, fun ds vs p ρ1 H1 ok1 s1 fr nh hp r1 h1 => by
    obtain ⟨k1, k2⟩ := ok1.take s1 fr nh hp r1 h1.1 h1.2.1
    exact (hq _ _ H1 k1 k2).1 h1.2.2, hx.e⟩
/-! ### what a slot holds is changed, read -/
/-- a list that a slot holds is written anew -/
theorem Ok.put [GoodJ Z] {i : Nat} {ds es : List D} {a : Addr} {vs ws : List V} (k : Ok Z σ ρ H G) (hd : heldAt ρ i = some ds) (ha : σ[i]? = some (some (.ref a))) (hv : H a = some (.lst vs)) (r : RpL Z (vis H (Hid ρ σ G)) es ws) :
    Ok Z σ (putAt ρ i es) (upd H a (.lst ws)) G ∧ Stp Z σ ρ H σ (putAt ρ i es) (upd H a (.lst ws)) := by
  have ho : Ow ρ σ a := ⟨i, ds, hd, ha⟩
  have eH : Hid (putAt ρ i es) σ G = Hid ρ σ G := by
    funext b
    exact propext ⟨fun z => z.imp (fun z => z) (Ow_put hd b).mp, fun z => z.imp (fun z => z) (Ow_put hd b).mpr⟩
  have eV : vis (upd H a (.lst ws)) (Hid ρ σ G) = vis H (Hid ρ σ G) := by
    funext b
    unfold vis
    by_cases q : b = a
    · subst q
      rw [if_pos (.inr ho), if_pos (.inr ho)]
    · by_cases q2 : Hid ρ σ G b
      · rw [if_pos q2, if_pos q2]
      · rw [if_neg q2, if_neg q2, upd_ne q]
  have nG : ¬ G a := by
    obtain ⟨b, us, h1, _, _, h4⟩ := k.own i ds hd
    rw [ha] at h1
    cases h1
    exact h4
  refine ⟨⟨by unfold putAt; rw [List.length_set]; exact k.len, fun j e q => ?_, fun j xs q => ?_, fun j l xs ys b q1 q2 q3 q4 => ?_, ?_, fun b z => ?_⟩, ⟨fun b o h n m => ?_, fun b o h n m z => m ((Ow_put hd b).mp z), fun j xs q => ⟨rfl, ?_⟩⟩⟩
  · have hij : i ≠ j := fun z => by
      subst z
      unfold putAt at q
      rw [slAt_set, if_pos ⟨rfl, heldAt_lt hd⟩] at q
      unfold heldAt at hd
      cases w : slAt ρ i with
      | no => rw [w] at hd; cases hd
      | val d => rw [w] at hd; cases hd
      | own xs => rw [w] at q; cases q
      | brw xs => rw [w] at q; cases q
    unfold putAt at q
    rw [slAt_set, if_neg (fun z => hij z.1)] at q
    obtain ⟨v, h1, h2⟩ := k.val j e q
    exact ⟨v, h1, by rw [eH, eV]; exact h2⟩
  · rw [heldAt_put hd] at q
    by_cases hij : i = j
    · rw [if_pos hij] at q
      cases q
      subst hij
      exact ⟨a, ws, ha, upd_same, by rw [eH, eV]; exact r, nG⟩
    · rw [if_neg hij] at q
      obtain ⟨b, us, h1, h2, h3, h4⟩ := k.own j xs q
      have hne : b ≠ a := fun z => by
        subst z
        exact hij (k.inj i j ds xs b hd q ha h1)
      exact ⟨b, us, h1, by rw [upd_ne hne]; exact h2, by rw [eH, eV]; exact h3, h4⟩
  · have f : ∀ (j : Nat) (xs : List D), heldAt (putAt ρ i es) j = some xs → ∃ ys, heldAt ρ j = some ys := fun j xs z => by
      rw [heldAt_put hd] at z
      by_cases hij : i = j
      · rw [← hij]
        exact ⟨ds, hd⟩
      · rw [if_neg hij] at z
        exact ⟨xs, z⟩
    obtain ⟨xs', w1⟩ := f j xs q1
    obtain ⟨ys', w2⟩ := f l ys q2
    exact k.inj j l xs' ys' b w1 w2 q3 q4
  · refine GoodJ.j H _ (fun b o h nc => ?_) k.j
    have hne : b ≠ a := fun z => by
      subst z
      rw [hv] at h
      cases h
      exact nc trivial
    rw [upd_ne hne]
    exact h
  · obtain ⟨o, h1, h2⟩ := k.gt b z
    exact ⟨o, by rw [upd_ne (fun q => nG (by rw [← q]; exact z))]; exact h1, h2⟩
  · rw [upd_ne (fun q => m (by rw [q]; exact ho))]
    exact h
  · by_cases hij : i = j
    · subst hij
      refine ⟨es, ?_⟩
      unfold putAt
      rw [slAt_set, if_pos ⟨rfl, heldAt_lt hd⟩, q]
      rfl
    · refine ⟨xs, ?_⟩
      unfold putAt
      rw [slAt_set, if_neg (fun z => hij z.1)]
      exact q
def Held (ρ : Rho) (i : Nat) : Prop := ∃ ds, heldAt ρ i = some ds
/-- x.append(e) -/
def sApp (i : Nat) (t : DA) : DS := fun B E ρ => Held ρ i ∧ t ρ (fun es ρ' => ∃ d ds, es = [d] ∧ heldAt ρ' i = some ds ∧ ds.length < LIM ∧ B.nx (putAt ρ' i (ds ++ [d]))) E
theorem ds_app [GoodJ Z] {i : Nat} {x : Str} {e : Expr} {t : DA} {px apos cpos pos : Pos} (ha : PA X [e] (upA Z W t)) (hN : X.N[i]? = some x := by rfl) (hv : Vis X.env.scope x := by first | exact Or.inl rfl | exact Or.inr (Or.inl rfl) | exact Or.inr (Or.inr rfl))
    (hd : (x == ("__debug__" : Str)) = false := by decide) (hcd : (x == ("__classdict__" : Str)) = false := by decide)
    (hbase : attributeBase (.Name x px) "append" X.env (eval (.Name x px) X.env) = eval (.Name x px) X.env := by rfl)
    (hfew : ((backTo cpos (starEach [e] X.env)).all (fun x => !x.1) && (backToKw cpos (keywordEach [] X.env)).all (fun x => x.1.isSome) && decide ([e].length + ([] : List Keyword).length + (if ([] : List Keyword).isEmpty then 0 else 1) < 30)) = true := by rfl)
    (hline : (apos.endLine == cpos.line) = true := by rfl) (hs : starEach [e] X.env = (false, eval e X.env) :: starEach [] X.env := by rfl) (hpl : (backTo cpos (starEach [] X.env)).any (·.1) = false := by rfl)
    (hsw : swapsWith (.Call (.Attribute (.Name x px) "append" apos) [e] [] cpos) none pos.line X.env = pure false := by rfl) :
    PS X (.Expr (.Call (.Attribute (.Name x px) "append" apos) [e] [] cpos) pos) (upS Z W (sApp i t)) :=
  PS.wk (ps_expr (pe_bm PySem.F.plainAttrs_list PySem.F.slot_list_append PySem.F.type_list_append mt_append (pe_var hN hv hd hcd) ha hbase hfew hline hs hpl) hsw) fun B σ H ⟨ρ, G, DD, E, ok, ⟨⟨ds0, h0⟩, h⟩, hq, hx⟩ => by
    obtain ⟨a, vs0, ha0, hv0, _⟩ := ok.own i ds0 h0
    refine ⟨.ref a, ha0, .inl ⟨rfl, vs0, .of hv0⟩, ρ, G, _, E, ok, h, fun es ws ρ1 H1 ok1 s1 r1 h1 => ?_, hx.e⟩
    obtain ⟨d, ds, rfl, h2, h3, h4⟩ := h1
    obtain ⟨v, rfl, rv⟩ := r1.one
    obtain ⟨b, vs, hb, hvb, rb, _⟩ := ok1.own i ds h2
    rw [ha0] at hb
    cases hb
    obtain ⟨k1, k2⟩ := ok1.put (es := ds ++ [d]) (ws := vs ++ [v]) h2 ha0 hvb (rb.append ⟨rv, trivial⟩)
    refine ⟨a, vs, v, rfl, rfl, hvb, ?_, (hq σ _ _ k1 (s1.trans k2)).1 h4⟩
    rw [← rb.len]
    exact Nat.lt_of_lt_of_le h3 LIM_le
/-- x[k] = e -/
def sSto (i : Nat) (te tk : DE) : DS := fun B E ρ => te ρ (fun d ρ1 => Held ρ1 i ∧ tk ρ1 (fun k ρ2 => ∃ n ds j, k = .int n ∧ heldAt ρ2 i = some ds ∧ ixN ds.length n = some j ∧ B.nx (putAt ρ2 i (ds.set j d))) E) E
theorem ds_sto [GoodJ Z] {i : Nat} {x : Str} {e k : Expr} {te tk : DE} {px tpos pos : Pos} (he : PE X e (upE Z W te)) (hk : PE X k (upE Z W tk)) (hN : X.N[i]? = some x := by rfl) (hv : Vis X.env.scope x := by first | exact Or.inl rfl | exact Or.inr (Or.inl rfl) | exact Or.inr (Or.inr rfl))
    (hd : (x == ("__debug__" : Str)) = false := by decide) (hcd : (x == ("__classdict__" : Str)) = false := by decide)
    (hs : swapsWithSole [.Subscript (.Name x px) k tpos] e pos.line X.env = pure false := by rfl) (hw : swappedStores [.Subscript (.Name x px) k tpos] e X.env = pure none := by rfl)
    (h1 : (assignEach [.Subscript (.Name x px) k tpos] X.env).map (·.2) = [assign (.Subscript (.Name x px) k tpos) X.env] := by rfl)
    (ha : ∀ v, assign (.Subscript (.Name x px) k tpos) X.env v = (do
      let ov ← holding [v] (eval (.Name x px) X.env)
      let iv ← holding [v, ov] (eval k X.env)
      standAt tpos
      holding [v, ov, iv] (setItem ov iv v)
      release [v, ov, iv] []) := by intro _; rfl) :
    PS X (.Assign [.Subscript (.Name x px) k tpos] e pos) (upS Z W (sSto i te tk)) := PS.wk (ps_asg he (pg_sub (pe_var hN hv hd hcd) hk set_list ha) hs hw h1) fun B σ H ⟨ρ, G, DD, E, ok, h, hq, hx⟩ => by
  refine ⟨ρ, G, _, E, ok, h, fun d v ρ1 H1 ok1 s1 r1 h1 => ?_, hx.e⟩
  obtain ⟨⟨ds0, h0⟩, h1⟩ := h1
  obtain ⟨a, vs0, ha0, hv0, _⟩ := ok1.own i ds0 h0
  refine ⟨.ref a, ha0, ρ1, G, _, E, ok1, h1, fun q u ρ2 H2 ok2 s2 r2 h2 => ?_, hx.e.step s1⟩
  obtain ⟨n, ds, j, rfl, h3, h4, h5⟩ := h2
  cases r2
  obtain ⟨b, vs, hb, hvb, rb, _⟩ := ok2.own i ds h3
  rw [ha0] at hb
  cases hb
  obtain ⟨k1, k2⟩ := ok2.put (es := ds.set j d) (ws := vs.set j v) h3 ha0 hvb (rb.set j (r1.sub s2.vis))
  exact ⟨a, vs, n, j, rfl, rfl, hvb, by rw [← rb.len]; exact h4, (hq σ _ _ k1 ((s1.trans s2).trans k2)).1 h5⟩
/-- x[k], len(x), e in x, for x that a slot holds -/
def dIxH (i : Nat) (tk : DE) : DE := fun ρ Q E => Held ρ i ∧ tk ρ (fun k ρ1 => ∃ n ds d, k = .int n ∧ heldAt ρ1 i = some ds ∧ atI ds n = some d ∧ Q d ρ1) E
theorem de_ixH [F : Fit X Z] {i : Nat} {x : Str} {k : Expr} {tk : DE} {px pos : Pos} (hk : PE X k (upE Z W tk)) (hs : PlainIx k) (hN : X.N[i]? = some x := by rfl) (hv : Vis X.env.scope x := by first | exact Or.inl rfl | exact Or.inr (Or.inl rfl) | exact Or.inr (Or.inr rfl))
    (hd : (x == ("__debug__" : Str)) = false := by decide) (hcd : (x == ("__classdict__" : Str)) = false := by decide) : PE X (.Subscript (.Name x px) k pos) (upE Z W (dIxH i tk)) :=
  PE.wk (pe_ix ix_list (pe_var hN hv hd hcd) hk hs) fun σ H Q ⟨ρ, G, Qd, E, ok, ⟨⟨ds0, h0⟩, h⟩, hq, hx⟩ => by
    obtain ⟨a, vs0, ha0, hv0, _⟩ := ok.own i ds0 h0
    refine ⟨.ref a, ha0, ρ, G, _, E, ok, h, fun q u ρ1 H1 ok1 s1 r1 h1 => ?_, hx⟩
    obtain ⟨n, ds, d, rfl, h3, h4, h5⟩ := h1
    cases r1
    obtain ⟨b, vs, hb, hvb, rb, _⟩ := ok1.own i ds h3
    rw [ha0] at hb
    cases hb
    obtain ⟨w, h6, h7⟩ := rb.atI h4
    exact ⟨a, vs, n, w, rfl, rfl, .of hvb, h6, hq d w ρ1 H1 ok1 s1 h7 h5⟩
def dLenH (i : Nat) : DE := fun ρ Q _ => ∃ ds, heldAt ρ i = some ds ∧ Q (.int ds.length) ρ
theorem de_lenH [F : Fit X Z] {i : Nat} {x : Str} {p px pos : Pos} (hm : Z.mg "len" = none) (hN : X.N[i]? = some x := by rfl) (hv : Vis X.env.scope x := by first | exact Or.inl rfl | exact Or.inr (Or.inl rfl) | exact Or.inr (Or.inr rfl))
    (hd : (x == ("__debug__" : Str)) = false := by decide) (hcd : (x == ("__classdict__" : Str)) = false := by decide) (hg : Gl X "len" := by rfl)
    (he : starEach [.Name x px] X.env = (false, eval (.Name x px) X.env) :: starEach [] X.env := by rfl) (hpl : (backTo pos (starEach [] X.env)).any (·.1) = false := by rfl) :
    PE X (.Call (.Name "len" p) [.Name x px] [] pos) (upE Z W (dLenH i)) := PE.wk (pe_callB call_len_seq hg (by rw [F.mg]; exact hm) boot_len (pa_cons (pe_var hN hv hd hcd) pa_nil he) (by decide) (by decide) he hpl) fun σ H Q ⟨ρ, G, Qd, E, ok, ⟨ds, h, h1⟩, hq, hx⟩ => by
  obtain ⟨a, vs, ha, hv, r, _⟩ := ok.own i ds h
  refine ⟨.ref a, ha, a, vs, rfl, .inl (.of hv), ?_⟩
  rw [← r.len]
  exact hq (.int _) _ ρ H ok .refl rfl h1
def dInH (neg : Bool) (i : Nat) (t : DE) : DE := fun ρ Q E => t ρ (fun d ρ1 => ∃ ds, heldAt ρ1 i = some ds ∧ (flatD d = true ∧ ds.all flatD = true) ∧ Q (.bl (if neg = true then !(ds.any fun y => eqD y d) else ds.any fun y => eqD y d)) ρ1) E
theorem up_inH [F : Fit X Z] (neg : Bool) {i : Nat} {t : DE} (σ : L2.St) (H : Hp) (Q : VK) (h : upE Z W (dInH neg i t) σ H Q) : tOp (rIn X.K neg) (upE Z W t) (tVar i) σ H Q := by
  obtain ⟨ρ, G, Qd, E, ok, h, hq, hx⟩ := h
  refine ⟨ρ, G, _, E, ok, h, fun d v ρ1 H1 ok1 s1 r1 h1 => ?_, hx⟩
  obtain ⟨ds, h2, h3, h4⟩ := h1
  obtain ⟨a, vs, ha, hv, r, _⟩ := ok1.own i ds h2
  refine ⟨.ref a, ha, a, vs, rfl, .inl (.of hv), r1.flat h3.1, r.flat h3.2, ?_⟩
  rw [any_eqV r1 h3.1 r h3.2]
  exact hq (.bl _) _ ρ1 H1 ok1 s1 rfl h4
theorem de_inH [F : Fit X Z] {i : Nat} {x : Str} {e : Expr} {t : DE} {px pos : Pos} (he : PE X e (upE Z W t)) (hN : X.N[i]? = some x := by rfl) (hv : Vis X.env.scope x := by first | exact Or.inl rfl | exact Or.inr (Or.inl rfl) | exact Or.inr (Or.inr rfl))
    (hd : (x == ("__debug__" : Str)) = false := by decide) (hcd : (x == ("__classdict__" : Str)) = false := by decide) (hm : behindInMarks .In (.Name x px) = false := by rfl) : PE X (.Compare e [.In] [.Name x px] pos) (upE Z W (dInH false i t)) :=
  PE.wk (pe_cmpR op_in_seq he (pe_var hN hv hd hcd) hm) (up_inH false)
theorem de_notInH [F : Fit X Z] {i : Nat} {x : Str} {e : Expr} {t : DE} {px pos : Pos} (he : PE X e (upE Z W t)) (hN : X.N[i]? = some x := by rfl) (hv : Vis X.env.scope x := by first | exact Or.inl rfl | exact Or.inr (Or.inl rfl) | exact Or.inr (Or.inr rfl))
    (hd : (x == ("__debug__" : Str)) = false := by decide) (hcd : (x == ("__classdict__" : Str)) = false := by decide) (hm : behindInMarks .NotIn (.Name x px) = false := by rfl) : PE X (.Compare e [.NotIn] [.Name x px] pos) (upE Z W (dInH true i t)) :=
  PE.wk (pe_cmpR op_notIn_seq he (pe_var hN hv hd hcd) hm) (up_inH true)
end
end TS
set_option Elab.async false
set_option linter.all false
set_option maxRecDepth 100000
set_option maxHeartbeats 4000000
set_option exponentiation.threshold 10000
/-! zip and enumerate over lists and tuples in any mix -/
namespace TS
open PySem PySem.Spec PyProof.Rows L2
/-- a list (k = true) or a tuple at a -/
def SqX (K : PySem.W.Frag) (H : Hp) (k : Bool) (a : Addr) (xs : List V) : Prop := match k with
  | true => SqL K H a xs
  | false => SqT K H a xs
def ItX (h : Heap) (k : Bool) (i a : Addr) (n : Nat) : Prop := match k with
  | true => h.IsListIter i a n
  | false => h.IsTupleIter i a n
def IsX (h : Heap) (k : Bool) (a : Addr) (its : Array Value) : Prop := match k with
  | true => h.IsList a its
  | false => h.IsTuple a its
def itO (k : Bool) (a : Addr) : Obj := match k with
  | true => { cls := .type "list_iterator", data := .fields #[.ref a, .int 0 0] }
  | false => { cls := .type "tuple_iterator", data := .fields #[.ref a, .int 0 0] }
section
variable {X : Cx} {pins : List (Addr × Obj)} {σ : L2.St} {H : Hp} {s : Shared} {K : PySem.W.Frag}
theorem ItX.ex {h : Heap} {k : Bool} {i a : Addr} {n : Nat} (q : ItX h k i a n) : ∃ o, h.get? i = some o ∧ ∀ v, o.data ≠ .cell v := by
  cases k with
  | true =>
    obtain ⟨o, e, _, d⟩ := q
    exact ⟨o, e, fun v z => by rw [d] at z; cases z⟩
  | false =>
    obtain ⟨o, e, _, d⟩ := q
    exact ⟨o, e, fun v z => by rw [d] at z; cases z⟩
theorem ItX.at {h h' : Heap} {k : Bool} {i a : Addr} {n : Nat} (q : ItX h k i a n) (e : ∀ o, h.get? i = some o → h'.get? i = some o) : ItX h' k i a n := by
  cases k with
  | true => exact Heap.IsListIter.at q e
  | false => exact Heap.IsTupleIter.at q e
theorem ItX.of {h : Heap} {k : Bool} {i a : Addr} (e : h.get? i = some (itO k a)) : ItX h k i a 0 := by
  cases k with
  | true => exact ⟨_, e, rfl, rfl⟩
  | false => exact ⟨_, e, rfl, rfl⟩
theorem beginsX (k : Bool) (a : Addr) (its : Array Value) : Begins (.ref a) (itO k a) fun h => IsX h k a its := by
  cases k with
  | true => exact begins_list a its
  | false => exact begins_tuple a its
theorem drawsX {prog : Program} {w : World} {A : Around} (hh : A.handled = none) (k : Bool) (it l : Addr) (hne : l ≠ it) (items : Array Value) :
    Draws prog w A it [it, l] items.size (fun i v => items[i]? = some v) (fun i h => ItX h k it l i ∧ IsX h k l items) := by
  cases k with
  | true => exact Draws.list hh it l hne items
  | false => exact Draws.tuple hh it l hne items
theorem isX (I : Inv X pins σ H s) {k : Bool} {a : Addr} {xs : List V} (h : SqX X.K H k a xs) : ∃ its : List Value, Vals xs its ∧ IsX s.heap k a its.toArray ∧ a < s.heap.objs.size := by
  cases k with
  | true =>
    obtain ⟨its, rv, p, _⟩ := I.list h
    exact ⟨its, rv, p.isList, p.lt⟩
  | false =>
    obtain ⟨its, rv, p, _⟩ := I.tuple h
    have p' : s.heap.IsTuple a its.toArray := p
    obtain ⟨o, ho, _⟩ := id p'
    exact ⟨its, rv, p', Heap.lt_size ho⟩
/-- the lists or tuples at a and b, their items in new pairs -/
def Jz (K : PySem.W.Frag) (k1 : Bool) (a : Addr) (xs : List V) (k2 : Bool) (b : Addr) (ys : List V) : It :=
  ⟨fun i H => i < min xs.length ys.length ∧ SqX K H k1 a xs ∧ SqX K H k2 b ys,
    fun i H v H' => ∃ T x y, v = .ref T ∧ H T = none ∧ H' = upd H T (.tup [x, y]) ∧ xs[i]? = some x ∧ ys[i]? = some y,
    fun i H => i = min xs.length ys.length ∧ SqX K H k1 a xs ∧ SqX K H k2 b ys⟩
theorem sepX {z TI TO i1 i2 a b : Addr} (D : ZipApart z TI TO i1 i2 a b) : ZipSep2 z TI TO i1 i2 [i1, a] [i2, b] where
  TIz := D.TIz
  TOz := D.TOz
  TITO := D.TITO
  TIi1 := D.TIi1
  mem1 := by simp
  zf1 := by simp only [List.mem_cons, List.not_mem_nil, or_false, not_or]; exact ⟨D.i1z.symm, D.l1z.symm⟩
  Tf1 := by simp only [List.mem_cons, List.not_mem_nil, or_false, not_or]; exact ⟨D.TOi1, D.l1TO.symm⟩
  TIi2 := D.TIi2
  mem2 := by simp
  zf2 := by simp only [List.mem_cons, List.not_mem_nil, or_false, not_or]; exact ⟨D.i2z.symm, D.l2z.symm⟩
  Tf2 := by simp only [List.mem_cons, List.not_mem_nil, or_false, not_or]; exact ⟨D.TOi2, D.l2TO.symm⟩
  sep1_2 := by simp only [List.mem_cons, List.not_mem_nil, or_false, not_or]; exact ⟨D.i12, D.l2i1.symm⟩
  sep2_1 := by simp only [List.mem_cons, List.not_mem_nil, or_false, not_or]; exact ⟨D.i12.symm, D.l1i2.symm⟩
theorem turn_zipX {P : Program} {w : World} {K : PySem.W.Frag} {elts : List Expr} {kk : Nat} {tpos : Pos} {k1 k2 : Bool} {a b z TI TO i1 i2 : Addr} {xs ys : List V} (D : ZipApart z TI TO i1 i2 a b) :
    Turn P w K (.Tuple elts kk tpos) (Jz K k1 a xs k2 b ys) [z, TI, TO, i1, i2] z (fun i h => IsZip h z TI TO .none ∧ IsTupOf2 h TI (.ref i1) (.ref i2) ∧ (∃ x y, IsTupOf2 h TO x y) ∧ ItX h k1 i1 a i ∧ ItX h k2 i2 b i) where
  mem := by simp
  obj := fun i h st c hc => by
    obtain ⟨hz, hTI, ⟨x, y, hTO⟩, h1, h2⟩ := st
    have e' : c = z ∨ c = TI ∨ c = TO ∨ c = i1 ∨ c = i2 := by simpa using hc
    rcases e' with q | q | q | q | q
    · rw [q]; exact ⟨_, hz, fun v q => nomatch q⟩
    · rw [q]; exact ⟨_, hTI, fun v q => nomatch q⟩
    · rw [q]; exact ⟨_, hTO, fun v q => nomatch q⟩
    · rw [q]; exact h1.ex
    · rw [q]; exact h2.ex
  keep := fun i h h' st k => by
    obtain ⟨hz, hTI, ⟨x, y, hTO⟩, h1, h2⟩ := st
    exact ⟨k z (by simp) _ hz, k TI (by simp) _ hTI, ⟨x, y, k TO (by simp) _ hTO⟩, h1.at fun o q => k i1 (by simp) o q, h2.at fun o q => k i2 (by simp) o q⟩
  item := by
    intro X hP hw hK hc i pins s σ H E I hf st hg
    subst hP hw hK
    obtain ⟨hz, hTI, hTO, h1, h2⟩ := st
    obtain ⟨hlt, q1, q2⟩ := hg
    obtain ⟨its1, rv1, p1, _⟩ := isX I q1
    obtain ⟨its2, rv2, p2, _⟩ := isX I q2
    have l1 := rv1.length
    have l2 := rv2.length
    have hh : X.A.in1.handled = none := I.ok.hd hc
    have G := GoesN.zip2 (elts := elts) (x1 := kk) (pos := tpos) (sepX D) (drawsX (prog := X.prog) (w := X.w) hh k1 i1 a D.l1i1 its1.toArray) (drawsX hh k2 i2 b D.l2i2 its2.toArray)
    refine wpAny_mono (G.goes i s (fun u s2 => ∃ x H', Inv X pins σ H' s2 ∧ RelV x u ∧ (Jz X.K k1 a xs k2 b ys).yld i H x H' ∧ (IsZip s2.heap z TI TO .none ∧ IsTupOf2 s2.heap TI (.ref i1) (.ref i2) ∧ (∃ x y, IsTupOf2 s2.heap TO x y) ∧ ItX s2.heap k1 i1 a (i + 1) ∧ ItX s2.heap k2 i2 b (i + 1)) ∧ ∀ c ∈ [z, TI, TO, i1, i2], H' c = none) E
      (by simp only [List.size_toArray]; omega) ⟨hz, hTI, hTO, ⟨h1, p1⟩, h2, p2⟩ fun v h' tk hY st' hk htk => ?_) (fun r s1 z => z) fun _ _ z => z
    obtain ⟨T, u, u2, ev, hT, hu, hu2, hTT⟩ := hY
    obtain ⟨g1, g2, g3, ⟨g4, _⟩, g5, _⟩ := st'
    subst ev
    obtain ⟨x, hx, rx⟩ : ∃ x, xs[i]? = some x ∧ RelV x u := by
      have hi : i < xs.length := by omega
      obtain ⟨u', hu', ru'⟩ := rv1.get (List.getElem?_eq_getElem hi)
      rw [List.getElem?_toArray] at hu
      rw [hu] at hu'
      cases hu'
      exact ⟨_, List.getElem?_eq_getElem hi, ru'⟩
    obtain ⟨y, hy, ry⟩ : ∃ y, ys[i]? = some y ∧ RelV y u2 := by
      have hi : i < ys.length := by omega
      obtain ⟨u', hu', ru'⟩ := rv2.get (List.getElem?_eq_getElem hi)
      rw [List.getElem?_toArray] at hu2
      rw [hu2] at hu'
      cases hu'
      exact ⟨_, List.getElem?_eq_getElem hi, ru'⟩
    have new : ObjOk X.prog X.w (upd H T (.tup [x, y])) h' T (.tup [x, y]) :=
      ⟨by show 2 ≤ sizeLine; decide, [u, u2], .cons rx (.cons ry .nil), hTT⟩
    have hlt' : ∀ c ∈ [z, TI, TO, i1, i2], c < s.heap.objs.size := fun c hc => by
      obtain ⟨x0, y0, hTO⟩ := hTO
      have e' : c = z ∨ c = TI ∨ c = TO ∨ c = i1 ∨ c = i2 := by simpa using hc
      rcases e' with q | q | q | q | q
      · rw [q]; exact Heap.lt_size hz
      · rw [q]; exact Heap.lt_size hTI
      · rw [q]; exact Heap.lt_size hTO
      · rw [q]; obtain ⟨_, e1, _⟩ := h1.ex; exact Heap.lt_size e1
      · rw [q]; obtain ⟨_, e2, _⟩ := h2.ex; exact Heap.lt_size e2
    have I1 : Inv X pins σ (upd H T (.tup [x, y])) { s with heap := h', toks := tk } :=
      I.turnedNew (ch := [z, TI, TO, i1, i2]) (fun c o hb q => hk c o (fun z => hb (by simp only [List.mem_cons, List.not_mem_nil, or_false] at z ⊢; rcases z with z | z | z | z <;> simp [z])) q) hf hT new
    exact ⟨.ref T, _, I1, rfl, ⟨T, x, y, rfl, I.hok.fresh hT, rfl, hx, hy⟩, ⟨g1, g2, g3, g4, g5⟩, fun c hcm => by
      rw [upd_ne (Nat.ne_of_lt (Nat.lt_of_lt_of_le (hlt' c hcm) hT))]
      exact (hf c hcm).1⟩
  done := by
    intro X hP hw hK hc i pins s σ H E I hf st hg
    subst hP hw hK
    obtain ⟨hz, hTI, hTO, h1, h2⟩ := st
    obtain ⟨hlt, q1, q2⟩ := hg
    obtain ⟨its1, rv1, p1, _⟩ := isX I q1
    obtain ⟨its2, rv2, p2, _⟩ := isX I q2
    have l1 := rv1.length
    have l2 := rv2.length
    have hh : X.A.in1.handled = none := I.ok.hd hc
    have G := GoesN.zip2 (elts := elts) (x1 := kk) (pos := tpos) (sepX D) (drawsX (prog := X.prog) (w := X.w) hh k1 i1 a D.l1i1 its1.toArray) (drawsX hh k2 i2 b D.l2i2 its2.toArray)
    have en : i = min its1.toArray.size its2.toArray.size := by simp only [List.size_toArray]; omega
    refine wpAny_mono (G.stops s (fun s1 => Inv X pins σ H s1) E ⟨hz, hTI, hTO, ⟨by rw [← en]; exact h1, p1⟩, by rw [← en]; exact h2, p2⟩ fun h' tk hk htk => ?_) (fun r s1 z => z) fun _ _ z => z
    exact I.turnedL (ch := [z, TI, TO, i1, i2]) (fun c o hb q => hk c o (fun z => hb (by simp only [List.mem_cons, List.not_mem_nil, or_false] at z ⊢; rcases z with z | z | z | z <;> simp [z])) q) hf
  self := fun A i s Q E st h => wpAny_pyIter_zip st.1 h
/-- the list or tuple at a, its items with their places -/
def Je (K : PySem.W.Frag) (k : Bool) (a : Addr) (xs : List V) : It :=
  ⟨fun i H => i < xs.length ∧ SqX K H k a xs,
    fun i H v H' => ∃ T x, v = .ref T ∧ H T = none ∧ H' = upd H T (.tup [.int (0 + (i : Int)), x]) ∧ xs[i]? = some x,
    fun i H => i = xs.length ∧ SqX K H k a xs⟩
theorem turn_enumX {P : Program} {w : World} {K : PySem.W.Frag} {elts : List Expr} {kk : Nat} {tpos : Pos} {k : Bool} {a e it : Addr} {xs : List V} (d1 : e ≠ it) (d2 : a ≠ e) (d3 : a ≠ it) :
    Turn P w K (.Tuple elts kk tpos) (Je K k a xs) [e, it] e (fun i h => (∃ old, IsEnum h e it (0 + (i : Int)) old) ∧ ItX h k it a i) where
  mem := by simp
  obj := fun i h st c hc => by
    obtain ⟨⟨old, he⟩, h1⟩ := st
    have e' : c = e ∨ c = it := by simpa using hc
    rcases e' with q | q
    · rw [q]; exact ⟨_, he, fun v q => nomatch q⟩
    · rw [q]; exact h1.ex
  keep := fun i h h' st k => by
    obtain ⟨⟨old, he⟩, h1⟩ := st
    exact ⟨⟨old, k e (by simp) _ he⟩, h1.at fun o q => k it (by simp) o q⟩
  item := by
    intro X hP hw hK hc i pins s σ H E I hf st hg
    subst hP hw hK
    obtain ⟨he, h1⟩ := st
    obtain ⟨hlt, q1⟩ := hg
    obtain ⟨its1, rv1, p1, _⟩ := isX I q1
    have l1 := rv1.length
    have hh : X.A.in1.handled = none := I.ok.hd hc
    have G := GoesN.enumFrom (elts := elts) (x1 := kk) (pos := tpos) 0 (drawsX (prog := X.prog) (w := X.w) hh k it a d3 its1.toArray) e d1 (by simp only [List.mem_cons, List.not_mem_nil, or_false, not_or]; exact ⟨d1, d2.symm⟩) (by simp)
    refine wpAny_mono (G.goes i s (fun u s2 => ∃ x H', Inv X pins σ H' s2 ∧ RelV x u ∧ (Je X.K k a xs).yld i H x H' ∧ ((∃ old, IsEnum s2.heap e it (0 + ((i + 1 : Nat) : Int)) old) ∧ ItX s2.heap k it a (i + 1)) ∧ ∀ c ∈ [e, it], H' c = none) E
      (by simp only [List.size_toArray]; omega) ⟨he, h1, p1⟩ fun v h' tk hY st' hk htk => ?_) (fun r s1 z => z) fun _ _ z => z
    obtain ⟨T, t, u, ev, hT, hu, hTT⟩ := hY
    obtain ⟨g1, g4, _⟩ := st'
    subst ev
    obtain ⟨x, hx, rx⟩ : ∃ x, xs[i]? = some x ∧ RelV x u := by
      have hi : i < xs.length := by omega
      obtain ⟨u', hu', ru'⟩ := rv1.get (List.getElem?_eq_getElem hi)
      rw [List.getElem?_toArray] at hu
      rw [hu] at hu'
      cases hu'
      exact ⟨_, List.getElem?_eq_getElem hi, ru'⟩
    have new : ObjOk X.prog X.w (upd H T (.tup [.int (0 + (i : Int)), x])) h' T (.tup [.int (0 + (i : Int)), x]) :=
      ⟨by show 2 ≤ sizeLine; decide, [.int (0 + (i : Int)) t, u], .cons ⟨_, rfl⟩ (.cons rx .nil), hTT⟩
    have hlt' : ∀ c ∈ [e, it], c < s.heap.objs.size := fun c hc => by
      obtain ⟨old, he⟩ := he
      have e' : c = e ∨ c = it := by simpa using hc
      rcases e' with q | q
      · rw [q]; exact Heap.lt_size he
      · rw [q]; obtain ⟨_, e1, _⟩ := h1.ex; exact Heap.lt_size e1
    have I1 : Inv X pins σ (upd H T (.tup [.int (0 + (i : Int)), x])) { s with heap := h', toks := tk } :=
      I.turnedNew (ch := [e, it]) (fun c o hb q => hk c o hb q) hf hT new
    exact ⟨.ref T, _, I1, rfl, ⟨T, x, rfl, I.hok.fresh hT, rfl, hx⟩, ⟨g1, g4⟩, fun c hcm => by
      rw [upd_ne (Nat.ne_of_lt (Nat.lt_of_lt_of_le (hlt' c hcm) hT))]
      exact (hf c hcm).1⟩
  done := by
    intro X hP hw hK hc i pins s σ H E I hf st hg
    subst hP hw hK
    obtain ⟨he, h1⟩ := st
    obtain ⟨hlt, q1⟩ := hg
    obtain ⟨its1, rv1, p1, _⟩ := isX I q1
    have l1 := rv1.length
    have hh : X.A.in1.handled = none := I.ok.hd hc
    have G := GoesN.enumFrom (elts := elts) (x1 := kk) (pos := tpos) 0 (drawsX (prog := X.prog) (w := X.w) hh k it a d3 its1.toArray) e d1 (by simp only [List.mem_cons, List.not_mem_nil, or_false, not_or]; exact ⟨d1, d2.symm⟩) (by simp)
    have en : i = its1.toArray.size := by simp only [List.size_toArray]; omega
    refine wpAny_mono (G.stops s (fun s1 => Inv X pins σ H s1) E ⟨by rw [← en]; exact he, by rw [← en]; exact h1, p1⟩ fun h' tk hk htk => ?_) (fun r s1 z => z) fun _ _ z => z
    exact I.turnedL (ch := [e, it]) (fun c o hb q => hk c o hb q) hf
  self := fun A i s Q E st h => let ⟨⟨_, he⟩, _⟩ := st; wpAny_pyIter_enum he h
end
end TS
set_option Elab.async false
set_option linter.all false
set_option maxRecDepth 100000
set_option maxHeartbeats 4000000
set_option exponentiation.threshold 10000
namespace TS
open PySem PySem.Spec PyProof.Rows L2
section
open Sem (wp)
open AutoSeq1 (wpAny_loadPart')
/-- enumerate(v), v a list or a tuple: the two new cells -/
theorem meets_enX (k : Bool) (a : Addr) (its : Array Value) : Meets (Builtin.«enumerate.__new__» ⟨[.type "enumerate", .ref a], []⟩) (fun _ R s => IsX s.heap k a its ∧
    R (.ok (.ret (.ref (s.heap.push (itO k a)).objs.size))) { s with heap := (s.heap.push (itO k a)).push { cls := .type "enumerate", data := .fields #[.none, .bool false, .ref s.heap.objs.size, rawInt 0, .none, .none] } }) :=
  .of_wp fun prog w A R s h => by
    obtain ⟨hp, g, d, tk, os⟩ := s; obtain ⟨h1, h⟩ := h
    have sb := sub_enumerate
    have q1 : ∀ {A' : Around} {E Q : Value → Shared → Prop}, Q (.ref hp.objs.size) ⟨hp.push (itO k a), g, d, tk, os⟩ → wpAny (model prog w) A' (pyIter (.ref a)) Q E ⟨hp, g, d, tk, os⟩ := fun q => (beginsX k a its).iter prog w _ _ ⟨hp, g, d, tk, os⟩ _ h1 q
    obtain ⟨ob, ho⟩ : ∃ ob, hp.get? a = some ob := by
      cases k <;> exact ⟨_, h1.choose_spec.1⟩
    wp_walk using wpAny_loadPart' ho, q1
    refine wpAny_stack_any fun st => wpAny_pure ?_
    split
    · rename_i c _ _ _ _ _
      cases (c == Value.type "enumerate") <;>
      · wp_walk using wpAny_loadPart' ho, q1
        exact ⟨_, rfl, h⟩
    · wp_walk using wpAny_loadPart' ho, q1
      exact ⟨_, rfl, h⟩
end
section
variable {prog : Program} {w : World} {A : Around} {E : Value → Shared → Prop} {s : Shared}
theorem call_enX {k : Bool} {a : Addr} {its : Array Value} {Q : Value → Shared → Prop} (h1 : IsX s.heap k a its)
    (h : ∀ g, IsEnum g (s.heap.objs.size + 1) s.heap.objs.size 0 .none → g.get? s.heap.objs.size = some (itO k a) → (∀ b o, s.heap.get? b = some o → g.get? b = some o) → Q (.ref (s.heap.objs.size + 1)) { s with heap := g }) :
    wpAny (model prog w) A (call (.type "enumerate") [.ref a]) Q E s := by
  refine callType_new F.called_enumerate (by decide) (F.typeCall_enumerate_1 _) (F.newCall_enumerate_1 _) (fun ob => F.args_object_init_2 ob _) F.entry_enumerate_new (meets_enX k a its) ⟨h1, ?_⟩
  have hz : (s.heap.push (itO k a)).objs.size = s.heap.objs.size + 1 := by rw [Heap.size_push]
  have he : ((s.heap.push (itO k a)).push { cls := .type "enumerate", data := .fields #[.none, .bool false, .ref s.heap.objs.size, rawInt 0, .none, .none] }).get? (s.heap.objs.size + 1) = some { cls := .type "enumerate", data := .fields #[.none, .bool false, .ref s.heap.objs.size, rawInt 0, .none, .none] } := by
    rw [← hz]
    exact Heap.get?_push_size _ rfl
  show _ ∧ _
  rw [hz]
  exact ⟨⟨_, he, rfl⟩, h _ he (Heap.get?_push_of_some _ (Heap.get?_push_size _ (beginsX k a its).free)) fun b o x => Heap.get?_push_of_some _ (Heap.get?_push_of_some _ x)⟩
end
def iEnX (K : PySem.W.Frag) (ta : TA) : TI := fun σ H R => ta σ H fun vs H1 => ∃ k a xs, vs = [.ref a] ∧ SqX K H1 k a xs ∧ R (Je K k a xs) H1
def iZipX (K : PySem.W.Frag) (ta : TA) : TI := fun σ H R => ta σ H fun vs H1 => ∃ k a xs k2 b ys, vs = [.ref a, .ref b] ∧ SqX K H1 k a xs ∧ SqX K H1 k2 b ys ∧ R (Jz K k a xs k2 b ys) H1
section
variable {X : Cx}
theorem pi_enX {e : Expr} {ta : TA} {p pos tpos : Pos} {elts : List Expr} {kk : Nat} (hg : Gl X "enumerate") (hm : X.mg "enumerate" = none) (ha : PA X [e] ta) (hs : starEach [e] X.env = [(false, eval e X.env)]) :
    PI X (.Tuple elts kk tpos) (.Call (.Name "enumerate" p) [e] [] pos) (iEnX X.K ta) := by
  refine ⟨fun pins s σ H R I h => Call_ (ld_blt I hg hm boot_enumerate (PyProof.Rows.callWith_type1 (thn (ha.run pos pins s σ H _ I h) fun us s1 ⟨vs, H1, I1, r1, k, a, xs, ex, hq, q⟩ => ?_) hs rfl))⟩
  subst ex
  cases r1 with
  | cons r rr =>
    cases rr
    cases r
    obtain ⟨its, rv, p1, hl⟩ := isX I1 hq
    refine call_enX p1 fun g he hit hk => wpAny_pyIter_enum he ?_
    have d1 : s1.heap.objs.size + 1 ≠ s1.heap.objs.size := Nat.succ_ne_self _
    have d2 : a ≠ s1.heap.objs.size + 1 := Nat.ne_of_lt (Nat.lt_succ_of_lt hl)
    have d3 : a ≠ s1.heap.objs.size := Nat.ne_of_lt hl
    refine ⟨s1.heap.objs.size + 1, [s1.heap.objs.size + 1, s1.heap.objs.size], _, _, H1, rfl, I1.kept (t' := s1.toks) hk, turn_enumX d1 d2 d3, ⟨⟨.none, he⟩, .of hit⟩, fun b hb => ?_, q⟩
    have hle : s1.heap.objs.size ≤ b := by
      simp only [List.mem_cons, List.not_mem_nil, or_false] at hb
      rcases hb with z | z <;> (rw [z]; first | exact Nat.le_refl _ | exact Nat.le_add_right _ _)
    exact I1.fpOk hle (I1.hok.fresh hle)
theorem pi_zpX {e e2 : Expr} {ta : TA} {p pos tpos : Pos} {elts : List Expr} {kk : Nat} (hg : Gl X "zip") (hm : X.mg "zip" = none) (ha : PA X [e, e2] ta)
    (hs : starEach [e, e2] X.env = (false, eval e X.env) :: starEach [e2] X.env) (hpl : (backTo pos (starEach [e2] X.env)).any (·.1) = false) :
    PI X (.Tuple elts kk tpos) (.Call (.Name "zip" p) [e, e2] [] pos) (iZipX X.K ta) := by
  refine ⟨fun pins s σ H R I h => Call_ (ld_blt I hg hm PyProof.Rows.boot_zip (PyProof.Rows.callWith_type1 (thn (ha.run pos pins s σ H _ I h) fun us s1 ⟨vs, H1, I1, r1, k, a, xs, k2, b, ys, ex, hq, hq2, q⟩ => ?_) hs hpl))⟩
  subst ex
  cases r1 with
  | cons r rr =>
   cases rr with
   | cons r' rr =>
    cases rr
    cases r
    cases r'
    obtain ⟨its, rv, p1, hl⟩ := isX I1 hq
    obtain ⟨its2, rv2, p2, hl2⟩ := isX I1 hq2
    refine zip_begins2 (beginsX k a its.toArray) (beginsX k2 b its2.toArray) p1 p2 fun g hz hTI hTO g1 g2 _ hk => wpAny_pyIter_zip hz ?_
    refine ⟨s1.heap.objs.size + 4, [s1.heap.objs.size + 4, s1.heap.objs.size + 2, s1.heap.objs.size + 3, s1.heap.objs.size, s1.heap.objs.size + 1], _, _, H1, rfl, I1.kept (t' := s1.toks) hk, turn_zipX (PySem.W.ktu_apart _ a b hl hl2), ⟨hz, hTI, ⟨_, _, hTO⟩, .of g1, .of g2⟩, fun c hc => ?_, q⟩
    have hle : s1.heap.objs.size ≤ c := by
      simp only [List.mem_cons, List.not_mem_nil, or_false] at hc
      rcases hc with z | z | z | z | z <;> (rw [z]; first | exact Nat.le_refl _ | exact Nat.le_add_right _ _)
    exact I1.fpOk hle (I1.hok.fresh hle)
end
/-- the items of a list or a tuple -/
def seqD : D → Option (List D)
  | .lst l => some l
  | .tup l => some l
  | _ => none
def enumD (xs : List D) : List D := xs.mapIdx fun i x => D.tup [.int (0 + (i : Int)), x]
def zipD (xs ys : List D) : List D := List.zipWith (fun x y => D.tup [x, y]) xs ys
def iEn (t : DA) : DI := fun ρ Q E => t ρ (fun ds ρ' => ∃ d xs, ds = [d] ∧ seqD d = some xs ∧ Q (enumD xs) ρ') E
def iZp (t : DA) : DI := fun ρ Q E => t ρ (fun ds ρ' => ∃ d e xs ys, ds = [d, e] ∧ seqD d = some xs ∧ seqD e = some ys ∧ Q (zipD xs ys) ρ') E
section
variable {X : Cx} {Z : Zx} {W : WX}
theorem Rp.seq {H : Hp} {d : D} {v : V} {xs : List D} (r : Rp Z H d v) (e : seqD d = some xs) : ∃ k a vs, v = .ref a ∧ SqX Z.K H k a vs ∧ RpL Z H xs vs := by
  cases d with
  | lst l =>
    cases e
    obtain ⟨a, vs, h1, h2, h3⟩ := r
    exact ⟨true, a, vs, h1, .of h2, h3⟩
  | tup l =>
    cases e
    obtain ⟨a, vs, h1, h2, h3⟩ := r
    exact ⟨false, a, vs, h1, h2, h3⟩
  | _ => cases e
theorem SqX.vis {H : Hp} {S : Addr → Prop} {k : Bool} {a : Addr} {vs : List V} (h : SqX Z.K (TS.vis H S) k a vs) : SqX Z.K H k a vs := by
  cases k with
  | true => exact vis_sqL h
  | false => exact vis_sqT h
theorem SqX.sub {A B : Hp} (s : Sub A B) {k : Bool} {a : Addr} {vs : List V} (h : SqX Z.K A k a vs) : SqX Z.K B k a vs := by
  cases k with
  | true => exact s.sqL h
  | false => exact s.sqT h
theorem vis_new {H : Hp} {S : Addr → Prop} {T : Addr} {o : HO} (hT : H T = none) (hS : ∀ a, S a → ∃ o, H a = some o) : vis (upd H T o) S T = some o := by
  refine vis_some.mpr ⟨fun z => ?_, upd_same⟩
  obtain ⟨o', e⟩ := hS _ z
  rw [hT] at e
  cases e
theorem it_en {A : Hp} {k : Bool} {a : Addr} {vs : List V} {ds : List D} (h : SqX Z.K A k a vs) (r : RpL Z A ds vs) : ItOk Z A (Je Z.K k a vs) (enumD ds) := fun i H S sub hS => by
  have q : SqX Z.K H k a vs := (h.sub sub).vis
  have hl : (enumD ds).length = vs.length := by unfold enumD; rw [List.length_mapIdx, r.len]
  refine ⟨fun hi => ⟨⟨by omega, q⟩, fun x H2 y => ?_⟩, fun hi => ⟨by omega, q⟩⟩
  obtain ⟨T, v, rfl, hT, rfl, hv⟩ := y
  obtain ⟨d, hd, rd⟩ := r.getV hv
  refine ⟨same_upd hT, .tup [.int (0 + (i : Int)), d], ?_, T, [.int (0 + (i : Int)), v], rfl, .of (vis_new hT hS), rfl, rd.sub (sub.trans (vis_ext (same_upd hT))), trivial⟩
  unfold enumD
  rw [List.getElem?_mapIdx, hd]
  rfl
theorem it_zp {A : Hp} {k k2 : Bool} {a b : Addr} {vs ws : List V} {ds es : List D} (h : SqX Z.K A k a vs) (r : RpL Z A ds vs) (h2 : SqX Z.K A k2 b ws) (r2 : RpL Z A es ws) : ItOk Z A (Jz Z.K k a vs k2 b ws) (zipD ds es) := fun i H S sub hS => by
  have q : SqX Z.K H k a vs := (h.sub sub).vis
  have q2 : SqX Z.K H k2 b ws := (h2.sub sub).vis
  have hl : (zipD ds es).length = min vs.length ws.length := by unfold zipD; rw [List.length_zipWith, r.len, r2.len]
  refine ⟨fun hi => ⟨⟨by omega, q, q2⟩, fun x H2 y => ?_⟩, fun hi => ⟨by omega, q, q2⟩⟩
  obtain ⟨T, v, u, rfl, hT, rfl, hv, hu⟩ := y
  obtain ⟨d, hd, rd⟩ := r.getV hv
  obtain ⟨e, he, re⟩ := r2.getV hu
  have s2 := sub.trans (vis_ext (S := S) (same_upd (o := .tup [v, u]) hT))
  refine ⟨same_upd hT, .tup [d, e], ?_, T, [v, u], rfl, .of (vis_new hT hS), rd.sub s2, re.sub s2, trivial⟩
  unfold zipD
  rw [List.getElem?_zipWith, hd, he]
theorem di_enum [F : Fit X Z] {e : Expr} {t : DA} {p pos tpos : Pos} {elts : List Expr} {kk : Nat} (hm : Z.mg "enumerate" = none) (ha : PA X [e] (upA Z W t)) (hg : Gl X "enumerate" := by rfl) (hs : starEach [e] X.env = [(false, eval e X.env)] := by rfl) :
    PI X (.Tuple elts kk tpos) (.Call (.Name "enumerate" p) [e] [] pos) (upI Z W (iEn t)) := PI.wk (pi_enX hg (by rw [F.mg]; exact hm) ha hs) fun σ H R ⟨ρ, G, Qd, E, ok, h, hq, hx⟩ => by
  refine ⟨ρ, G, _, E, ok, h, fun ds vs ρ1 H1 ok1 s1 r1 h1 => ?_, hx⟩
  obtain ⟨d, xs, rfl, es, q⟩ := h1
  obtain ⟨v, rfl, rv⟩ := r1.one
  obtain ⟨k, a, ws, rfl, sq, rr⟩ := rv.seq es
  rw [F.K]
  exact ⟨k, a, ws, rfl, sq.vis, hq _ ρ1 H1 _ ok1 s1 (it_en sq rr) q⟩
theorem di_zip [F : Fit X Z] {e e2 : Expr} {t : DA} {p pos tpos : Pos} {elts : List Expr} {kk : Nat} (hm : Z.mg "zip" = none) (ha : PA X [e, e2] (upA Z W t)) (hg : Gl X "zip" := by rfl)
    (hs : starEach [e, e2] X.env = (false, eval e X.env) :: starEach [e2] X.env := by rfl) (hpl : (backTo pos (starEach [e2] X.env)).any (·.1) = false := by rfl) :
    PI X (.Tuple elts kk tpos) (.Call (.Name "zip" p) [e, e2] [] pos) (upI Z W (iZp t)) := PI.wk (pi_zpX hg (by rw [F.mg]; exact hm) ha hs hpl) fun σ H R ⟨ρ, G, Qd, E, ok, h, hq, hx⟩ => by
  refine ⟨ρ, G, _, E, ok, h, fun ds vs ρ1 H1 ok1 s1 r1 h1 => ?_, hx⟩
  obtain ⟨d, e', xs, ys, rfl, es, es2, q⟩ := h1
  obtain ⟨v, u, rfl, rv, ru⟩ := r1.two
  obtain ⟨k, a, ws, rfl, sq, rr⟩ := rv.seq es
  obtain ⟨k2, b, ws2, rfl, sq2, rr2⟩ := ru.seq es2
  rw [F.K]
  exact ⟨k, a, ws, k2, b, ws2, rfl, sq.vis, sq2.vis, hq _ ρ1 H1 _ ok1 s1 (it_zp sq rr sq2 rr2) q⟩
end
end TS
set_option Elab.async false
set_option linter.all false
set_option maxRecDepth 100000
set_option maxHeartbeats 4000000
set_option exponentiation.threshold 10000
namespace TS
open PySem PySem.Spec PyProof.Rows L2
/-! ### a def keeps its law -/
/-- the parameters behind the def: the lists that it was handed to change as they are now -/
def exitR (as ρ : List Sl) : List Sl := as.mapIdx fun i s => match s with
  | .brw _ => slAt ρ i
  | s => s
def entR (as : List Sl) (n : Nat) : Rho := as ++ List.replicate (n - as.length) Sl.no
section
variable {Z : Zx} {H : Hp} {G : Addr → Prop}
theorem slAt_exit {as ρ : List Sl} (i : Nat) : slAt (exitR as ρ) i = match slAt as i with
    | .brw _ => slAt ρ i
    | s => s := by
  unfold exitR
  by_cases h : i < as.length
  · have e1 : slAt as i = as[i] := by
      unfold slAt
      rw [List.getD_eq_getElem?_getD, List.getElem?_eq_getElem h]
      rfl
    rw [e1]
    unfold slAt
    rw [List.getD_eq_getElem?_getD, List.getElem?_mapIdx, List.getElem?_eq_getElem h]
    rfl
  · have e1 : slAt as i = .no := Classical.byContradiction fun z => h (slAt_lt z)
    rw [e1]
    unfold slAt
    rw [List.getD_eq_getElem?_getD, List.getElem?_mapIdx, List.getElem?_eq_none (by omega)]
    rfl
theorem slAt_ent {as : List Sl} {n : Nat} (i : Nat) : slAt (entR as n) i = slAt as i := by
  unfold entR slAt
  rw [List.getD_eq_getElem?_getD, List.getD_eq_getElem?_getD]
  by_cases h : i < as.length
  · rw [List.getElem?_append_left h]
  · rw [List.getElem?_append_right (by omega), List.getElem?_eq_none (show as.length ≤ i by omega), List.getElem?_replicate]
    split <;> rfl
theorem start_at {N : List Str} {vs : List V} (i : Nat) (h : i < vs.length) : (L2.start N vs)[i]? = (vs.map some)[i]? := by
  unfold L2.start
  rw [List.getElem?_append_left (by simpa using h)]
theorem Ok.enter {N : List Str} {as : List Sl} {vs : List V} (k : Ok Z (vs.map some) as H G) : Ok Z (L2.start N vs) (entR as N.length) H G ∧ Hid (entR as N.length) (L2.start N vs) G = Hid as (vs.map some) G := by
  have hl : as.length = vs.length := by
    have := k.len
    rwa [List.length_map] at this
  have held : ∀ j, heldAt (entR as N.length) j = heldAt as j := fun j => by
    unfold heldAt
    rw [slAt_ent]
  have lt : ∀ j xs, heldAt as j = some xs → j < vs.length := fun j xs e => by
    rw [← hl]
    exact heldAt_lt e
  have ow : ∀ a, Ow (entR as N.length) (L2.start N vs) a ↔ Ow as (vs.map some) a := fun a => by
    constructor
    · rintro ⟨j, xs, e1, e2⟩
      rw [held] at e1
      rw [start_at j (lt j xs e1)] at e2
      exact ⟨j, xs, e1, e2⟩
    · rintro ⟨j, xs, e1, e2⟩
      exact ⟨j, xs, by rw [held]; exact e1, by rw [start_at j (lt j xs e1)]; exact e2⟩
  have eH : Hid (entR as N.length) (L2.start N vs) G = Hid as (vs.map some) G := by
    funext a
    exact propext ⟨fun z => z.imp (fun z => z) (ow a).mp, fun z => z.imp (fun z => z) (ow a).mpr⟩
  refine ⟨⟨by unfold entR L2.start; simp [hl], fun i d e => ?_, fun i xs e => ?_, fun i j xs ys a q1 q2 q3 q4 => ?_, k.j, k.gt⟩, eH⟩
  · rw [slAt_ent] at e
    have hi : i < vs.length := by
      rw [← hl]
      exact slAt_lt (by rw [e]; exact fun z => by cases z)
    obtain ⟨v, h1, h2⟩ := k.val i d e
    exact ⟨v, by rw [start_at i hi]; exact h1, by rw [eH]; exact h2⟩
  · rw [held] at e
    obtain ⟨a, ws, h1, h2, h3, h4⟩ := k.own i xs e
    exact ⟨a, ws, by rw [start_at i (lt i xs e)]; exact h1, h2, by rw [eH]; exact h3, h4⟩
  · rw [held] at q1 q2
    rw [start_at i (lt i xs q1)] at q3
    rw [start_at j (lt j ys q2)] at q4
    exact k.inj i j xs ys a q1 q2 q3 q4
/-- no list of the caller's is one's own at the entry -/
def NoOwn (as : List Sl) : Prop := ∀ i ds, slAt as i ≠ .own ds
theorem Ok.leave {N : List Str} {as : List Sl} {vs : List V} {σ' : L2.St} {ρ' : Rho} {H' : Hp} (k : Ok Z (vs.map some) as H G) (no : NoOwn as) (k' : Ok Z σ' ρ' H' G) (s : Stp Z (L2.start N vs) (entR as N.length) H σ' ρ' H') :
    Ok Z (vs.map some) (exitR as ρ') H' G ∧ Stp Z (vs.map some) as H (vs.map some) (exitR as ρ') H' ∧ Sub (vis H' (Hid ρ' σ' G)) (vis H' (Hid (exitR as ρ') (vs.map some) G)) := by
  have hl : as.length = vs.length := by
    have := k.len
    rwa [List.length_map] at this
  obtain ⟨kE, eE⟩ := k.enter (N := N)
  have ltA : ∀ j, slAt as j ≠ .no → j < vs.length := fun j e => by
    rw [← hl]
    exact slAt_lt e
  have br : ∀ j xs, heldAt (exitR as ρ') j = some xs → ∃ m, slAt as j = .brw m ∧ slAt ρ' j = .brw xs ∧ σ'[j]? = (vs.map some)[j]? := fun j xs e => by
    unfold heldAt at e
    rw [slAt_exit] at e
    cases w : slAt as j with
    | no => rw [w] at e; cases e
    | val d => rw [w] at e; cases e
    | own m => exact absurd w (no j m)
    | brw m =>
      rw [w] at e
      obtain ⟨e1, ds', e2⟩ := s.brw j m (by rw [slAt_ent]; exact w)
      refine ⟨m, rfl, ?_, by rw [e1, start_at j (ltA j (by rw [w]; exact fun z => by cases z))]⟩
      have e' : (slAt ρ' j).held = some xs := e
      rw [e2] at e' ⊢
      cases e'
      rfl
  have ow : ∀ a, Ow (exitR as ρ') (vs.map some) a → Ow ρ' σ' a := fun a ⟨j, xs, e1, e2⟩ => by
    obtain ⟨m, _, h2, h3⟩ := br j xs e1
    exact ⟨j, xs, by unfold heldAt; rw [h2]; rfl, by rw [h3]; exact e2⟩
  have owE : ∀ a, Ow (entR as N.length) (L2.start N vs) a → Ow as (vs.map some) a := fun a z => by
    have q : Hid (entR as N.length) (L2.start N vs) (fun _ => False) = Hid as (vs.map some) (fun _ => False) := ((show Ok Z (vs.map some) as H (fun _ => False) from ⟨k.len, fun i d e => by
      obtain ⟨v, h1, h2⟩ := k.val i d e
      exact ⟨v, h1, h2.sub (vis_sub fun a o h n _ => ⟨fun z => n (z.elim False.elim .inr), h⟩)⟩, fun i xs e => by
      obtain ⟨a, ws, h1, h2, h3, h4⟩ := k.own i xs e
      exact ⟨a, ws, h1, h2, h3.sub (vis_sub fun a o h n _ => ⟨fun z => n (z.elim False.elim .inr), h⟩), fun z => z⟩, k.inj, k.j, fun a z => z.elim⟩).enter (N := N)).2
    have z2 : Hid (entR as N.length) (L2.start N vs) (fun _ => False) a := .inr z
    rw [q] at z2
    exact z2.elim False.elim fun z => z
  have sub : Sub (vis H' (Hid ρ' σ' G)) (vis H' (Hid (exitR as ρ') (vs.map some) G)) := vis_sub fun a o h n _ => ⟨fun z => n (z.imp (fun z => z) (ow a)), h⟩
  have sub0 : Sub (vis H (Hid as (vs.map some) G)) (vis H' (Hid (exitR as ρ') (vs.map some) G)) := by
    have q : Sub (vis H (Hid (entR as N.length) (L2.start N vs) G)) (vis H' (Hid ρ' σ' G)) := s.vis
    rw [eE] at q
    exact q.trans sub
  refine ⟨⟨by unfold exitR; rw [List.length_mapIdx]; exact k.len, fun i d e => ?_, fun i xs e => ?_, fun i j xs ys a q1 q2 q3 q4 => ?_, k'.j, k'.gt⟩, ⟨fun a o h n m => s.keep a o h n fun z => m (owE a z), fun a o h n m z => s.out a o h n (fun z => m (owE a z)) (ow a z), fun i xs e => ⟨rfl, ?_⟩⟩, sub⟩
  · rw [slAt_exit] at e
    cases w : slAt as i with
    | no => rw [w] at e; cases e
    | own m => exact absurd w (no i m)
    | val d' =>
      rw [w] at e
      cases e
      obtain ⟨v, h1, h2⟩ := k.val i d w
      exact ⟨v, h1, h2.sub sub0⟩
    | brw m =>
      rw [w] at e
      obtain ⟨_, ds', e2⟩ := s.brw i m (by rw [slAt_ent]; exact w)
      have e' : slAt ρ' i = .val d := e
      rw [e2] at e'
      cases e'
  · obtain ⟨m, h1, h2, h3⟩ := br i xs e
    obtain ⟨a, ws, w1, w2, w3, w4⟩ := k'.own i xs (by unfold heldAt; rw [h2]; rfl)
    exact ⟨a, ws, by rw [← h3]; exact w1, w2, w3.sub sub, w4⟩
  · obtain ⟨m, _, h2, h3⟩ := br i xs q1
    obtain ⟨m', _, h2', h3'⟩ := br j ys q2
    exact k'.inj i j xs ys a (by unfold heldAt; rw [h2]; rfl) (by unfold heldAt; rw [h2']; rfl) (by rw [h3]; exact q3) (by rw [h3']; exact q4)
  · obtain ⟨_, ds', e2⟩ := s.brw i xs (by rw [slAt_ent]; exact e)
    exact ⟨ds', by rw [slAt_exit, e]; exact e2⟩
end
instance fit_cx {CXX : CXT} {P : Program} {w : World} {Z : Zx} {base : Heap} {N : List Str} {q : Str} {sc : Scope} {f : Addr} {cd : Value} {A : Around} {o : List Env} {s : Shared} {H : Hp} {E : XK} : Fit (cxOf CXX P w Z.K Z.mg base N q sc f cd A o s H E) Z := ⟨rfl, rfl⟩
/-- the context of a def's body -/
abbrev CxD (P : Program) (w : World) (base : Heap) (Z : Zx) (N : List Str) (n : Str) (sc : Scope) (f : Addr) (cd : Value) (A : Around) (o : List Env) (s : Shared) (H : Hp) (E : XK) : Cx := cxOf (L2N.CX P w) P w Z.K Z.mg base N n sc f cd A o s H E
abbrev WD (E : XK) : WX := fun c d _ H => E c d H
/-- what a def's body owes: its reading at the entry -/
def Body (t : DS) (n m : Nat) (F : FS) : Prop := ∀ as Qd Ed, F as Qd Ed → as.length = m ∧ NoOwn as ∧ t { nx := fun ρ => Qd .non (exitR as ρ), rt := fun d ρ => Qd d (exitR as ρ) } (fun x ρ => Ed x (exitR as ρ)) (entR as n)
theorem Df.of {P : Program} {w : World} {base : Heap} {Z : Zx} {N ps : List Str} {scope : Scope} {body : List Stmt} {params : Arguments} {f : Addr} {fd : FuncData} {n : Str} {k m : Nat} {F : FS} {t : DS} (FD : FunD Z.K n n params body scope [] [] f fd) (S : FnScope N ps scope) (hm : Z.mg n = some (.ref f))
    (hb : ∀ (kV doc pm : Value) (an : Option Addr) (cdv ct : Value) (us : List Value), us.length = ps.length → bindArgs (PySem.W.fnOf n n params body scope .none kV doc pm an cdv ct) ⟨us, []⟩ = pure (ps.zip us)) (hps : ps.length = m)
    (walk : ∀ (cdv : Value) (A : Around) (outer : List Env) (s : Shared) (H : Hp) (E : XK), Room k (A.deeper (envOfC n scope s.heap.objs.size f cdv)) → PSs (CxD P w base Z N n scope f cdv A outer s H E) body (upS Z (WD E) t))
    (pur : Body t N.length m F) : Df P w base Z (k + 1) n m F := by
  refine ⟨f, fd, ps, FD.ok S (fun vs H Q E h => h.1.trans hps.symm) fun cdv A outer s H vs Q E hr h => ⟨_, walk cdv A outer s H E hr, ?_⟩, hm, FD.kp, FD.bindsN hb⟩
  obtain ⟨hl, as, G, Qd, Ed, ok, hF, hq, hx⟩ := h
  obtain ⟨_, no, ht⟩ := pur as Qd Ed hF
  obtain ⟨kE, eE⟩ := ok.enter (N := N)
  refine ⟨entR as N.length, G, _, _, kE, ht, fun σ' ρ' H' ok' s' => ?_, fun x c dd σ' ρ' H' ok' s' p e => ?_⟩
  · obtain ⟨k1, k2, k3⟩ := ok.leave no ok' s'
    refine ⟨fun z => hq .non .non _ H' k1 k2 rfl z, fun z => z.elim, fun z => z.elim, fun d v r z => hq d v _ H' k1 k2 (r.sub k3) z⟩
  · obtain ⟨k1, k2, k3⟩ := ok.leave no ok' s'
    exact hx x c dd _ H' k1 k2 p e
end TS
set_option Elab.async false
set_option linter.all false
set_option maxRecDepth 100000
set_option maxHeartbeats 4000000
set_option exponentiation.threshold 10000
/-! the end of an iterator while an exception is handled -/
namespace TS
open PySem PySem.Spec PyProof.Rows L2 HotX
section
open Sem (wp)
variable {prog : Program} {w : World} {A : Around} {E : Value → Shared → Prop} {s : Shared}
theorem stop_hot {α : Type} {x1 : Addr} {Q : α → Shared → Prop} (hot : HotAt A x1 s.heap)
    (hE : ∀ h' e, (∀ b o, s.heap.get? b = some o → h'.get? b = some o) → (∃ o, h'.get? e = some o ∧ o.cls = .type "StopIteration") → E (.ref e) { s with heap := h' }) :
    wpAny (model prog w) A (newExc (.type "StopIteration") []) (fun a s' => wpAny (model prog w) A (raiseNew a : Sem α) Q E s') E s := by
  obtain ⟨hh, o1, vs1, h1, d1, c1⟩ := hot
  simp only [newExc, newTuple]
  refine wpAny_bind (wpAny_newObj_type ?_ (by size_fits)); refine wpAny_bind (m := firstArgMember _ _) (wpAny_of_eq (a := Value.none) (by first | rfl | (simp only [firstArgMember]; rfl)) ?_)
  refine wpAny_newObj_type ?_ (by size_fits); refine raiseNew_hot ⟨hh, o1, vs1, Heap.get?_push_of_some _ (Heap.get?_push_of_some _ h1), d1, c1⟩ (Nat.ne_of_lt (Heap.lt_size (Heap.get?_push_of_some _ h1))) (Heap.get?_push_size _ rfl) rfl
    (by first | (simp; done) | (simp; omega) | (simp only [Array.size_append]; simp; omega)) (hE _ _ (fun b o e => ?_) ⟨_, Heap.get?_update_self _ (Heap.get?_push_size _ rfl) rfl, rfl⟩)
  rw [Heap.get?_update_other _ _ (Nat.ne_of_gt (Heap.lt_size (Heap.get?_push_of_some _ e)))]; exact Heap.get?_push_of_some _ (Heap.get?_push_of_some _ e)
theorem hot_over {x1 it : Addr} {h h' : Heap} {o1 : Obj} (hs : Heap.SameBut it h h') (hne : x1 ≠ it) (e : h.get? x1 = some o1) : h'.get? x1 = some o1 := hs.extBut _ _ hne e
theorem hot_go {x1 : Addr} {h h' : Heap} (hot : HotAt A x1 h) (k : ∀ o, h.get? x1 = some o → h'.get? x1 = some o) : HotAt A x1 h' := by
  obtain ⟨hh, o1, vs1, h1, d1, c1⟩ := hot
  exact ⟨hh, o1, vs1, k _ h1, d1, c1⟩
theorem nextList_hot {it l x1 : Addr} {i : Nat} {items} {Q : Value → Shared → Prop} (hot : HotAt A x1 s.heap) (hne : x1 ≠ it) (hit : s.heap.IsListIter it l i) (hl : s.heap.IsList l items) (hx : items[i]? = none)
    (hE : ∀ h' e, Heap.ExtBut it s.heap h' → (∃ o, h'.get? e = some o ∧ o.cls = .type "StopIteration") → E (.ref e) { s with heap := h' }) : wpAny (model prog w) A (Builtin.SmallTypes.nextOf (.ref it)) Q E s := by
  obtain ⟨o, ho, hc, hd⟩ := id hit; obtain ⟨ol, hol, _, nl, hdl⟩ := hl
  unfold Builtin.SmallTypes.nextOf
  refine wpAny_bind (wpAny_callSpecial?_slot (name := Str.ofString "__next__") hit.typeIs slot_listiter_next (wpAny_call_entry slot_listiter_next hit.typeIs entry_listiter_next ?_ (args_listiter_next _)))
  show wpAny _ _ (field (.ref it) 0 >>= _) _ _ s; refine wpAny_bind (wpAny_field ho hd (x := .ref l) rfl ?_)
  show wpAny _ _ (if (Value.ref l == Value.none) = true then _ else _) _ _ s; rw [if_neg (show ¬ ((Value.ref l == Value.none) = true) from Bool.false_ne_true)]
  show wpAny _ _ (field (.ref it) 1 >>= _) _ _ s; refine wpAny_bind (wpAny_field ho hd (x := .int i 0) rfl ?_)
  show wpAny _ _ (seqItems? (.ref l) >>= _) _ _ s; refine wpAny_bind (wpAny_seqItems hol hdl ?_)
  simp only [Int.toNat_natCast, hx]; refine wpAny_bind (wpAny_rule (wpAny_bind (wpAny_setField ho hd (by simp) ?_)))
  show wpAny _ _ (newExc (.type "StopIteration") [] >>= _) _ _ _; refine wpAny_bind (stop_hot (x1 := x1) (hot_go hot fun o e => hot_over (Heap.SameBut.update ..) hne e) fun h' e hk he => ?_)
  exact hE h' e (fun b o hb q => hk b o ((Heap.SameBut.update ..).extBut b o hb q)) he
theorem nextTup_hot {it t x1 : Addr} {i : Nat} {items} {Q : Option Value → Shared → Prop} (hot : HotAt A x1 s.heap) (hne : x1 ≠ it) (hit : IsTupIter s.heap it t i) (ht : IsTup s.heap t items) (hx : items[i]? = none)
    (hQ : ∀ h', Heap.ExtBut it s.heap h' → Q none { s with heap := h' }) : wpAny (model prog w) A (pyNext (.ref it)) Q E s := by
  obtain ⟨o, ho, hc, hd⟩ := id hit; obtain ⟨ol, hol, _, nl, hdl⟩ := ht
  unfold pyNext
  refine wpAny_bind (wpAny_attempt (wpAny_callSpecial?_slot (name := Str.ofString "__next__") hit.typeIs slot_tupleiter_next (wpAny_call_entry slot_tupleiter_next hit.typeIs entry_tupleiter_next ?_ (args_tupleiter_next _))))
  show wpAny _ _ (field (.ref it) 0 >>= _) _ _ s; refine wpAny_bind (wpAny_field ho hd (x := .ref t) rfl ?_)
  show wpAny _ _ (if (Value.ref t == Value.none) = true then _ else _) _ _ s; rw [if_neg (show ¬ ((Value.ref t == Value.none) = true) from Bool.false_ne_true)]
  show wpAny _ _ (field (.ref it) 1 >>= _) _ _ s; refine wpAny_bind (wpAny_field ho hd (x := .int i 0) rfl ?_)
  show wpAny _ _ (seqItems? (.ref t) >>= _) _ _ s; refine wpAny_bind (wpAny_seqItems hol hdl ?_)
  simp only [Int.toNat_natCast, hx]; refine wpAny_bind (wpAny_rule (wpAny_bind (wpAny_setField ho hd (by simp) ?_)))
  show wpAny _ _ (newExc (.type "StopIteration") [] >>= _) _ _ _; refine wpAny_bind (stop_hot (x1 := x1) (hot_go hot fun o e => hot_over (Heap.SameBut.update ..) hne e) fun h' e hk he => ?_)
  obtain ⟨oe, he, hec⟩ := he
  refine wpAny_bind (wpAny_isInstance (T := "StopIteration") (b := true) ⟨oe, he, hec⟩ isSubtype_stop ?_)
  exact wpAny_pure (hQ h' fun b o hb q => hk b o ((Heap.SameBut.update ..).extBut b o hb q))
theorem unpack_hot {t x1 : Addr} {items : Array Value} {targets : List (Bool × (Value → Sem Unit))} {Q : Unit → Shared → Prop} (hot : HotAt A x1 s.heap) (ht : IsTup s.heap t items) (hn : targets.length = items.size) (hstar : targets.findIdx? (·.1) = none)
    (h : ∀ h', Heap.ExtBut s.heap.objs.size s.heap h' → wpAny (model prog w) A (assignInOrder (targets.map (·.2)) items.toList) Q E { s with heap := h' }) : wpAny (model prog w) A (unpack (.ref t) targets) Q E s := by
  have hlt : t ≠ s.heap.objs.size := by obtain ⟨o, ho, _⟩ := ht; exact Nat.ne_of_lt (Heap.lt_size ho)
  have hx1 : x1 ≠ s.heap.objs.size := by obtain ⟨_, o, _, ho, _⟩ := hot; exact Nat.ne_of_lt (Heap.lt_size ho)
  unfold unpack; rw [hn, hstar]
  refine wpAny_bind (wpAny_holding ?_)
  unfold unpackItems; refine wpAny_bind ?_
  unfold notIterableAtAll; refine wpAny_bind (wpAny_specialOf ht.typeIs slot_tuple_iter.lookup ?_)
  refine wpAny_pure ?_
  simp only [Bool.false_eq_true, if_false]
  refine wpAny_bind (wpAny_holding (iter_tuple ht ?_)); refine wpAny_bind (wpAny_holding (draw_tuple hlt items.size 0 _ _ ⟨_, Heap.get?_push_size _ rfl, rfl, rfl⟩ (ht.push _) (by omega) fun h₁ hit₁ hs₁ => ?_))
  have hall : List.take items.size (List.drop 0 items.toList) = items.toList := by rw [List.drop_zero]; exact List.take_of_length_le (by simp)
  rw [hall, if_neg (by simp)]
  have hot1 : HotAt A x1 h₁ := hot_go hot fun o e => hs₁.extBut x1 o hx1 (Heap.get?_push_of_some _ e)
  refine wpAny_bind (wpAny_holding (nextTup_hot hot1 hx1 hit₁ ((ht.push _).extBut hs₁.extBut hlt) (by simp) fun h₂ he₂ => ?_))
  simp only [Option.isSome_none, Bool.false_eq_true, if_false]
  exact wpAny_pure (h h₂ fun b o hb e => he₂ b o hb (hs₁.extBut b o hb (Heap.get?_push_of_some _ e)))
/-- what a list's iterator draws there -/
theorem draws_hot {x1 : Addr} (hh : A.handled = some (.ref x1)) (it l : Addr) (hne : l ≠ it) (hx : x1 ≠ it) (items : Array Value) :
    Draws prog w A it [it, l, x1] items.size (fun i v => items[i]? = some v) (fun i h => h.IsListIter it l i ∧ h.IsList l items ∧ HotAt A x1 h) where
  live := fun _ _ st => let ⟨o, ho, _⟩ := st.1; ⟨o, ho⟩
  frame := fun _ _ _ st hk => ⟨st.1.at fun o e => hk it (by simp) o e, st.2.1.at fun o e => hk l (by simp) o e, hot_go st.2.2 fun o e => hk x1 (by simp) o e⟩
  item := fun i s Q E hi st hQ => wpAny_nextOf_list_item st.1 st.2.1 (x := items[i]) (by simp [hi]) fun h' hit' hs' => hQ _ h' s.toks (by simp [hi]) ⟨hit', st.2.1.extBut hs'.extBut hne, hot_go st.2.2 fun o e => hot_over hs' hx e⟩ hs'
  done := fun s Q E st hE => nextList_hot st.2.2 hx st.1 st.2.1 (by simp) hE
end
end TS
set_option Elab.async false
set_option linter.all false
set_option maxRecDepth 100000
set_option maxHeartbeats 4000000
set_option exponentiation.threshold 10000
/-! [a for a, b in zip(xs, ys) if b] while an exception is handled -/
namespace TS
open PySem PySem.Spec PyProof.Rows L2 HotX
theorem nm_off {b N C D : Nat} (hb : b < N ∨ b = C) (hC : N + 5 ≤ C) (hD : N + 5 ≤ D) (h : D ≠ C) : ¬ (b = D ∨ b = N + 4 ∨ b = N + 3 ∨ b = N ∨ b = N + 1) := by omega
theorem nm_ne {b N C : Nat} (hb : b < N + 5) (hC : N + 5 ≤ C) : b ≠ C := by omega
theorem nm_lt {b N l1 l2 x : Nat} (h1 : l1 < N) (h2 : l2 < N) (h3 : x < N) (hb : b = N + 4 ∨ b = N + 2 ∨ b = N + 3 ∨ b = N ∨ b = l1 ∨ b = x ∨ b = N + 1 ∨ b = l2 ∨ b = x) : b < N + 5 := by omega
/-- the items whose flag is true -/
def pick {α : Type} : List α → List Bool → List α
  | x :: xs, b :: bs => if b then x :: pick xs bs else pick xs bs
  | _, _ => []
theorem pick_take {α : Type} : ∀ (xs : List α) (bs : List Bool) (i : Nat) (x : α) (b : Bool), xs[i]? = some x → bs[i]? = some b → pick (xs.take (i + 1)) (bs.take (i + 1)) = pick (xs.take i) (bs.take i) ++ (if b then [x] else [])
  | [], _, _, _, _, h, _ => by simp at h
  | _ :: _, [], _, _, _, _, h => by simp at h
  | y :: ys, c :: cs, 0, x, b, h, k => by
    simp at h k
    subst h k
    simp [pick]
  | y :: ys, c :: cs, i + 1, x, b, h, k => by
    have ih := pick_take ys cs i x b (by simpa using h) (by simpa using k)
    simp only [List.take_succ_cons, pick]
    cases c
    · simpa using ih
    · simpa using ih
section
open Sem (wp)
variable {prog : Program} {w : World} {A : Around} {env : Env} {s : Shared}
theorem lc_hot {E : Value → Shared → Prop} {scope : Scope} {cl : List (Str × Addr)} {l1 l2 x1 : Addr} {xs : List Value} {bs : List Bool} {xa xb : Str} {pa pb pc pt pe : Pos} {n : Nat} {Q : Value → Shared → Prop} (hot : HotAt A x1 s.heap)
    (hkind : scope.kind = .function) (ha : scope.names.lookup xa = some .local) (hb : scope.names.lookup xb = some .local) (hab : xa ≠ xb) (hda : (xa == ("__debug__" : Str)) = false) (hdb : (xb == ("__debug__" : Str)) = false)
    (hl1 : s.heap.IsList l1 xs.toArray) (hl2 : s.heap.IsList l2 (bs.map Value.bool).toArray) (hsz : xs.length ≤ sizeLine) (hlen : xs.length = bs.length)
    (h : ∀ D h' tk (vs : List Value), s.heap.objs.size ≤ D → h'.PlainList D vs.toArray → vs = pick xs bs → (∀ b o, s.heap.get? b = some o → h'.get? b = some o) → Q (.ref D) { s with heap := h', toks := tk }) :
    wpAny (model prog w) A (call (.type "zip") [.ref l1, .ref l2]) (fun xv s₁ => wpAny (model prog w) A (pyIter xv) (LcGoes prog w A E env scope cl (.Tuple [.Name xa pa, .Name xb pb] n pt) [.Name xb pc] (.Name xa pe) none Q) E s₁) E s := by
  have lt1 : l1 < s.heap.objs.size := by obtain ⟨o, ho, _⟩ := hl1; exact Heap.lt_size ho
  have lt2 : l2 < s.heap.objs.size := by obtain ⟨o, ho, _⟩ := hl2; exact Heap.lt_size ho
  obtain ⟨hh, o1, vs1, g1, d1, c1⟩ := id hot
  have ltx : x1 < s.heap.objs.size := Heap.lt_size g1
  refine zip_begins2 (begins_list l1 xs.toArray) (begins_list l2 (bs.map Value.bool).toArray) hl1 hl2 fun h₁ hZ hTI hTO hi1 hi2 hz5 hk₁ => wpAny_pyIter_zip hZ ?_
  refine ⟨_, _, _, _, _, _, rfl, Goes.zip2 (zip_sep2 (N := s.heap.objs.size) (fp1 := [l1, x1]) (fp2 := [l2, x1]) (fun b hb => by
      simp only [List.mem_cons, List.not_mem_nil, or_false] at hb
      rcases hb with e | e <;> (rw [e]; assumption)) (fun b hb => by
      simp only [List.mem_cons, List.not_mem_nil, or_false] at hb
      rcases hb with e | e <;> (rw [e]; assumption)))
      (draws_hot (A := A.in1) hh _ l1 (Nat.ne_of_lt lt1) (Nat.ne_of_lt ltx) xs.toArray) (draws_hot (A := A.in1) hh _ l2 (Nat.ne_of_lt (Nat.lt_succ_of_lt lt2)) (Nat.ne_of_lt (Nat.lt_succ_of_lt ltx)) (bs.map Value.bool).toArray),
    by simp only [List.size_toArray, List.length_map]; omega,
    ⟨hZ, hTI, ⟨_, _, hTO⟩, ⟨⟨_, hi1, rfl, rfl⟩, hl1.at fun o e => hk₁ _ o e, hh, o1, vs1, hk₁ _ _ g1, d1, c1⟩, ⟨⟨_, hi2, rfl, rfl⟩, hl2.at fun o e => hk₁ _ o e, hh, o1, vs1, hk₁ _ _ g1, d1, c1⟩⟩, ?_, fun D C s₃ hB => ?_⟩
  · intro b hb
    show b < h₁.objs.size
    rw [hz5]
    exact nm_lt lt1 lt2 ltx (by simpa using hb)
  obtain ⟨⟨h₃, tk₃, rfl⟩, old, nD, nC, hDC, hnm⟩ := hB
  have nC' : (s.heap.objs.size + 5 : Nat) ≤ C := by rw [← hz5]; exact nC
  have nD' : (s.heap.objs.size + 5 : Nat) ≤ D := by rw [← hz5]; exact nD
  have hDC' : (D : Nat) ≠ C := hDC
  have kinds : ∀ y, scope.names.lookup y = some .local → (compEnvC scope cl C env).kindOf y = some .local := fun y hy => lookup_relabel_local hy
  have hp : ((compEnvC scope cl C env).scope.kind == .class || ((compEnvC scope cl C env).scope.kind == .module && (compEnvC scope cl C env).locals != (compEnvC scope cl C env).globals)) = false := by
    show (scope.kind == .class || (scope.kind == .module && _)) = false
    rw [hkind]; rfl
  refine ⟨fun i vs s₁ => ∃ h' tk m, s₁ = { s with heap := h', toks := tk } ∧ h'.Ns C m ∧ vs = pick (xs.take i) (bs.take i) ∧ ∀ b o, s.heap.get? b = some o → h'.get? b = some o, ⟨h₃, tk₃, _, rfl, hnm, by simp [pick], fun b o e => old b o (hk₁ b o e)⟩, ?_, ?_, ?_⟩
  · rintro i vs s₁ h' tk ⟨h₄, tk₄, m, rfl, n₄, e₄, k₄⟩ hk' _
    have off : ∀ b : Addr, (b < s.heap.objs.size ∨ b = C) → b ∉ D :: [s.heap.objs.size + 4, s.heap.objs.size + 3, s.heap.objs.size, s.heap.objs.size + 1] := fun b hb hm => nm_off hb nC' nD' hDC' (by simpa using hm)
    exact ⟨h', tk, m, rfl, n₄.at' fun o e => hk' _ o (off _ (.inr rfl)) e, e₄, fun b o e => hk' b o (off _ (.inl (Heap.lt_size e))) (k₄ b o e)⟩
  · rintro i v vs s₁ hi ⟨T, x, y, rfl, hx, hy, hT⟩ st ⟨h₄, tk₄, m, rfl, n₄, e₄, k₄⟩ hpl
    have hx' : xs[i]? = some x := by simpa using hx
    obtain ⟨b, hbi, rfl⟩ : ∃ b, bs[i]? = some b ∧ y = .bool b := by
      have hy' : (bs.map Value.bool).toArray[i]? = some y := hy
      rw [List.getElem?_toArray, List.getElem?_map] at hy'
      cases e : bs[i]? with
      | none => rw [e] at hy'; cases hy'
      | some b => rw [e] at hy'; cases hy'; exact ⟨b, rfl, rfl⟩
    have hCs : C < h₄.objs.size := by obtain ⟨o, _, _, ho, _⟩ := n₄; exact Heap.lt_size ho
    have hot4 : HotAt A x1 h₄ := hot_go hot fun o e => k₄ _ o e
    rw [assign_Tuple]
    refine wpAny_bind (wpAny_standAt (unpack_hot (s := { s with heap := h₄, toks := tk₄ }) hot4 hT rfl rfl fun h₅ hs₅ => ?_))
    have up₅ : ∀ b o, h₄.get? b = some o → h₅.get? b = some o := fun b o e => hs₅ b o (Nat.ne_of_lt (Heap.lt_size e)) e
    show wpAny _ _ (assignInOrder [assign (.Name xa pa) _, assign (.Name xb pb) _] [x, .bool b]) _ _ _
    refine wpAny_assignInOrder_more (wpAny_assign_Name (wpAny_storeName_local (kinds _ ha) (n₄.at' fun o e => up₅ _ o e) (fun h₆ n₆ s₆ => ?_) hp))
    refine wpAny_assignInOrder_more (wpAny_assign_Name (wpAny_storeName_local (kinds _ hb) n₆ (fun h₇ n₇ s₇ => wpAny_assignInOrder_none ?_) hp))
    have up₇ : ∀ b o, b ≠ C → h₄.get? b = some o → h₇.get? b = some o := fun b o hb e => s₇.extBut _ _ hb (s₆.extBut _ _ hb (up₅ b o e))
    have offC : ∀ b : Addr, b < s.heap.objs.size + 5 → b ≠ C := fun b hb => nm_ne hb nC'
    have keepG : ∀ tk, ∃ h' tk' m, ({ s with heap := h₇, toks := tk } : Shared) = { s with heap := h', toks := tk' } ∧ h'.Ns C m ∧ pick (xs.take i) (bs.take i) ++ (if b then [x] else []) = pick (xs.take (i + 1)) (bs.take (i + 1)) ∧ ∀ b o, s.heap.get? b = some o → h'.get? b = some o :=
      fun tk => ⟨h₇, tk, _, rfl, n₇, (pick_take xs bs i x b hx' hbi).symm, fun b o e => up₇ b o (offC b (Nat.lt_add_right 5 (Heap.lt_size e))) (k₄ b o e)⟩
    obtain ⟨z1, z2, ⟨a1, a2, z3⟩, ⟨z4, z5, z6⟩, ⟨z7, z8, z9⟩⟩ := st
    have keepS : IsZip h₇ (s.heap.objs.size + 4) (s.heap.objs.size + 2) (s.heap.objs.size + 3) .none ∧ IsTupOf2 h₇ (s.heap.objs.size + 2) (.ref s.heap.objs.size) (.ref (s.heap.objs.size + 1)) ∧ (∃ a1 a2, IsTupOf2 h₇ (s.heap.objs.size + 3) a1 a2) ∧
        (h₇.IsListIter s.heap.objs.size l1 (i + 1) ∧ h₇.IsList l1 xs.toArray ∧ HotAt A.in1 x1 h₇) ∧ (h₇.IsListIter (s.heap.objs.size + 1) l2 (i + 1) ∧ h₇.IsList l2 (bs.map Value.bool).toArray ∧ HotAt A.in1 x1 h₇) :=
      ⟨up₇ _ _ (offC _ (Nat.add_lt_add_left (by decide) _)) z1, up₇ _ _ (offC _ (Nat.add_lt_add_left (by decide) _)) z2, ⟨a1, a2, up₇ _ _ (offC _ (Nat.add_lt_add_left (by decide) _)) z3⟩,
        ⟨z4.at fun o e => up₇ _ o (offC _ (Nat.lt_add_of_pos_right (by decide))) e, z5.at fun o e => up₇ _ o (offC _ (Nat.lt_add_right 5 lt1)) e, hot_go z6 fun o e => up₇ _ o (offC _ (Nat.lt_add_right 5 ltx)) e⟩,
        ⟨z7.at fun o e => up₇ _ o (offC _ (Nat.add_lt_add_left (by decide) _)) e, z8.at fun o e => up₇ _ o (offC _ (Nat.lt_add_right 5 lt2)) e, hot_go z9 fun o e => up₇ _ o (offC _ (Nat.lt_add_right 5 ltx)) e⟩⟩
    have plD : h₇.PlainList D vs.toArray := hpl.at fun o e => up₇ _ o hDC e
    refine wpAny_tests_one (isTrue_plain ?_ rfl)
    rw [eval_Name _ _ _ hdb]
    refine wpAny_bind (wpAny_standAt (wpAny_loadName_local hkind (kinds _ hb) n₇ (v := .bool b) (by simp) (wpAny_truthy_bool ?_)))
    cases b with
    | false =>
      rw [if_neg (by decide)]
      obtain ⟨h', tk', m', q1, q2, q3, q4⟩ := keepG (tk₄ + 1 + 1)
      exact ⟨⟨h', tk', m', q1, q2, by rw [e₄, ← q3]; simp, q4⟩, keepS, plD⟩
    | true =>
      rw [if_pos rfl, eval_Name _ _ _ hda]
      refine wpAny_bind (wpAny_standAt (wpAny_loadName_local hkind (kinds _ ha) n₇ (v := x) (by simp [hab]) ?_))
      obtain ⟨h', tk', m', q1, q2, q3, q4⟩ := keepG (tk₄ + 1 + 1)
      exact ⟨⟨h', tk', m', q1, q2, by rw [e₄, ← q3]; simp, q4⟩, keepS, plD⟩
  · rintro vs s₁ ⟨h₄, tk₄, m, rfl, n₄, e₄, k₄⟩ hpl
    have nD'' : s.heap.objs.size ≤ D := Nat.le_trans (Nat.le_add_right _ 5) nD'
    refine ⟨m, n₄, fun h' hs' => h D h' tk₄ vs nD'' (hpl.extBut hs'.extBut hDC) ?_ fun b o e => hs'.extBut b o (nm_ne (Nat.lt_add_right 5 (Heap.lt_size e)) nC') (k₄ b o e)⟩
    rw [e₄]
    have e1 : min xs.toArray.size (bs.map Value.bool).toArray.size = xs.length := by simp only [List.size_toArray, List.length_map]; omega
    rw [e1, List.take_length, hlen, List.take_length]
end
section
variable {X : Cx}
open L2H (HotC)
/-- what it leaves: a new list of the texts whose flag is true -/
def tNm (K : PySem.W.Frag) (ta : TA) : TE := fun σ H Q => ta σ H fun vs H1 => ∃ (p q : Addr) (xs : List Str) (bs : List Bool), vs = [.ref p, .ref q] ∧ SqL K H1 p (xs.map V.str) ∧ SqL K H1 q (bs.map V.bl) ∧ xs.length = bs.length ∧ ∀ D, H1 D = none → Q (.ref D) (upd H1 D (.lst ((pick xs bs).map V.str)))
theorem vals_bl : ∀ {bs : List Bool} {us : List Value}, Vals (bs.map V.bl) us → us = bs.map Value.bool
  | [], _, .nil => rfl
  | b :: bs, _, .cons r t => by
    cases r
    rw [vals_bl t]
    rfl
theorem vals_pick : ∀ {xs : List Str} {us : List Value} {bs : List Bool}, Vals (xs.map V.str) us → Vals ((pick xs bs).map V.str) (pick us bs)
  | [], _, _, .nil => by
    simp only [pick, List.map_nil]
    exact .nil
  | x :: xs, _, [], .cons r t => by
    simp only [pick, List.map_nil]
    exact .nil
  | x :: xs, _, b :: bs, .cons r t => by
    simp only [pick]
    cases b
    · rw [if_neg (by decide), if_neg (by decide)]
      exact vals_pick t
    · rw [if_pos rfl, if_pos rfl]
      exact .cons r (vals_pick t)
theorem pick_len {α : Type} : ∀ (xs : List α) (bs : List Bool), (pick xs bs).length ≤ xs.length
  | [], _ => by simp [pick]
  | _ :: _, [] => by simp [pick]
  | x :: xs, b :: bs => by
    have := pick_len xs bs
    simp only [pick]
    cases b <;> simp <;> omega
theorem pe_nm {e e2 : Expr} {ta : TA} {scope : Scope} {xa xb : Str} {pa pb pc pt pe p cpos pos : Pos} {n : Nat} (hot : HotC X) (hg : Gl X "zip") (hm : X.mg "zip" = none) (ha : PA X [e, e2] ta)
    (hcell : ∀ y ∈ scope.names, y.2 ≠ .cell ∧ y.2 ≠ .free) (hkind : scope.kind = .function) (hnames : ∀ y ∈ scope.names, y.2 = .local → scope.names.lookup y.1 = some .local)
    (hna : scope.names.lookup xa = some .local) (hnb : scope.names.lookup xb = some .local) (hab : xa ≠ xb) (hda : (xa == ("__debug__" : Str)) = false) (hdb : (xb == ("__debug__" : Str)) = false)
    (hs1 : starEach [e, e2] X.env = (false, eval e X.env) :: starEach [e2] X.env) (hpl : (backTo cpos (starEach [e2] X.env)).any (·.1) = false) (hs : ∀ x, foldedSetIterable (.Call (.Name "zip" p) [e, e2] [] cpos) X.env x = pure x) :
    PE X (.ListComp (.Name xa pe) [⟨.Tuple [.Name xa pa, .Name xb pb] n pt, .Call (.Name "zip" p) [e, e2] [] cpos, [.Name xb pc], 0⟩] scope pos) (tNm X.K ta) := by
  refine ⟨fun pins s σ H Q I h => ?_⟩
  have hclos : closureFor scope X.env = pure (cloFrom X.env.cells scope.names []) := closure_ok fun y hy e => absurd e (hcell y hy).2
  refine ListComp_goes hclos (fun y hy => (hcell y hy).1) hkind hnames ?_ hs
  refine Call_ (ld_blt I hg hm PyProof.Rows.boot_zip (PyProof.Rows.callWith_type1 (thn (ha.run cpos pins s σ H _ I h) fun us s1 ⟨vs, H1, I1, r1, a, b, xs, bs, ex, hq, hq2, hl, q⟩ => ?_) hs1 hpl))
  subst ex
  cases r1 with
  | cons r rr =>
   cases rr with
   | cons r' rr =>
    cases rr
    cases r
    cases r'
    obtain ⟨its, rv, p1, hz1⟩ := I1.list hq
    obtain ⟨its2, rv2, p2, _⟩ := I1.list hq2
    have e2 := vals_bl rv2
    subst e2
    obtain ⟨x1, hat⟩ := hot.at I1
    have l1 := rv.length
    rw [List.length_map] at l1
    refine lc_hot hat hkind hna hnb hab hda hdb p1.isList p2.isList (by rw [← l1, ← List.length_map (f := V.str)]; exact hz1) (by omega) fun D h' tk vs nD hpD ev hk => ?_
    subst ev
    have I2 : Inv X pins σ (upd H1 D (.lst ((pick xs bs).map V.str))) { s1 with heap := h', toks := tk } := I1.laid hk nD (by
      obtain ⟨m, hm⟩ := hpD
      refine ⟨?_, pick its bs, m, vals_pick rv, hm⟩
      rw [List.length_map]
      have := pick_len xs bs
      rw [List.length_map] at hz1
      omega)
    exact ⟨.ref D, _, I2, rfl, q D (I1.hok.fresh nD)⟩
end
end TS
set_option Elab.async false
set_option linter.all false
set_option maxRecDepth 100000
set_option maxHeartbeats 4000000
set_option exponentiation.threshold 10000
/-! the labels of a caught error: isinstance of it, told in a def that the suite calls -/
namespace TS
open PySem PySem.Spec PyProof.Rows L2 HotX
open L2H (HotC Hot1 PinOk RoomH cxH inv_startH)
/-! ### isinstance of the error that is pinned -/
theorem call_isH {X : Cx} {a D : Addr} {oe : Obj} (hp : (a, oe) ∈ X.pn) (C : ExcC X.K D) (hz : Zc (.ref D) none oe) (hf : ∃ vs, oe.data = .fields vs) : CallR X (.builtin "isinstance") (rIsE X.K D a) := by
  intro pins s σ H xs us Q I r h
  obtain ⟨c, cv, b, rfl, hcv, e, q⟩ := h
  obtain ⟨v, u, rfl, rx, rt⟩ := r.two
  cases rx
  have ec := hcv _ rt
  subst ec
  have hget := (I.pin (a, oe) (List.mem_append_left _ hp)).1
  obtain ⟨vs, hv⟩ := hf
  have J : PySem.W.InstAt s.heap a oe D none := by
    obtain ⟨oc, od, oda, osl⟩ := oe
    obtain ⟨h1, h2⟩ := hz
    dsimp only at h1 h2 hv
    subst h1 h2 hv
    exact ⟨hget, rfl, rfl, trivial⟩
  exact PySem.W.kia_one (PySem.W.handS_kitx_exc C.hg C.hk C.hs C.hd C.ha C.hn C.ht C.hm) I.kIn J e (fun z => nomatch z) fun tk => ⟨.bl b, H, I.kept (t' := tk) fun _ _ z => z, rfl, q⟩
/-- it is asked, of the error in slot 0 -/
def tIs (a : Addr) (b : Bool) : TE := fun σ H Q => σ[0]? = some (some (.ref a)) ∧ Q (.bl b) H
def tIss (a : Addr) (bs : List Bool) : TA := fun σ H Q => σ[0]? = some (some (.ref a)) ∧ Q (bs.map V.bl) H
section
variable {X : Cx} {a D : Addr}
theorem pe_is {x n : Str} {b : Bool} {C : Addr} {p px pn pos : Pos} (hc : CallR X (.builtin "isinstance") (rIsE X.K D a)) (hm : X.mg "isinstance" = none) (hg : Gl X "isinstance") (hN : X.N[0]? = some x) (hv : Vis X.env.scope x) (hgn : Gl X n) (hmn : X.mg n = some (.ref C)) (k : PySem.W.kitOne X.K (.ref D) (.ref C) = some b)
    (hd : (x == ("__debug__" : Str)) = false) (hcd : (x == ("__classdict__" : Str)) = false) (hdn : (n == ("__debug__" : Str)) = false)
    (he : starEach [.Name x px, .Name n pn] X.env = (false, eval (.Name x px) X.env) :: starEach [.Name n pn] X.env) (he2 : starEach [.Name n pn] X.env = (false, eval (.Name n pn) X.env) :: starEach [] X.env) (hpl : (backTo pos (starEach [.Name n pn] X.env)).any (·.1) = false) :
    PE X (.Call (.Name "isinstance" p) [.Name x px, .Name n pn] [] pos) (tIs a b) :=
  PE.wk (pe_callB hc hg hm boot_isinstance (pa_cons (pe_var (i := 0) hN hv hd hcd) (pa_cons (pe_glob (v := .ref C) hgn hmn rfl hdn) pa_nil he2) he) (by decide) (by decide) he hpl) fun σ H Q ⟨h0, h⟩ =>
    ⟨.ref a, h0, .ref C, .ref C, b, rfl, fun u r => by cases r; rfl, k, h⟩
theorem pe_isT {x n : Str} {b : Bool} {T : String} {p px pn pos : Pos} (hc : CallR X (.builtin "isinstance") (rIsE X.K D a)) (hm : X.mg "isinstance" = none) (hg : Gl X "isinstance") (hN : X.N[0]? = some x) (hv : Vis X.env.scope x) (hgn : Gl X n) (hmn : X.mg n = none) (hbn : bootBuiltins n = some (.type T)) (hnn : n ≠ "__name__") (k : PySem.W.kitOne X.K (.ref D) (.type T) = some b)
    (hd : (x == ("__debug__" : Str)) = false) (hcd : (x == ("__classdict__" : Str)) = false) (hdn : (n == ("__debug__" : Str)) = false)
    (he : starEach [.Name x px, .Name n pn] X.env = (false, eval (.Name x px) X.env) :: starEach [.Name n pn] X.env) (he2 : starEach [.Name n pn] X.env = (false, eval (.Name n pn) X.env) :: starEach [] X.env) (hpl : (backTo pos (starEach [.Name n pn] X.env)).any (·.1) = false) :
    PE X (.Call (.Name "isinstance" p) [.Name x px, .Name n pn] [] pos) (tIs a b) :=
  PE.wk (pe_callB hc hg hm boot_isinstance (pa_cons (pe_var (i := 0) hN hv hd hcd) (pa_cons (pe_bltn (v := .ty T) hgn hmn hbn rfl hnn hdn) pa_nil he2) he) (by decide) (by decide) he hpl) fun σ H Q ⟨h0, h⟩ =>
    ⟨.ref a, h0, .ty T, .type T, b, rfl, fun u r => r, k, h⟩
theorem pa_is0 : PA X [] (tIss a []) := PA.wk pa_nil fun _ _ _ h => h.2
theorem pa_is {e : Expr} {es : List Expr} {b : Bool} {bs : List Bool} (h : PE X e (tIs a b)) (k : PA X es (tIss a bs)) (hs : starEach (e :: es) X.env = (false, eval e X.env) :: starEach es X.env := by rfl) : PA X (e :: es) (tIss a (b :: bs)) :=
  PA.wk (pa_cons h k hs) fun _ _ _ h => ⟨h.1, h.1, h.2⟩
end
/-! ### the def that is called -/
structure FnZ (P : Program) (w : World) (K : PySem.W.Frag) (mg : Str → Option Value) (base : Heap) (k : Nat) (f : Addr) (fd : FuncData) (ps : List Str) (D : Addr) (r : Str) : Prop where
  len : ps.length = 1
  run : ∀ (A : Around) (outer : List Env) (s : Shared) (H : Hp) (args : Args) (us : List Value) (Q : VK) (p : Addr × Obj), RoomH k A → Hot1 A p → Zc (.ref D) none p.2 → PinOk outer H s p → Env0 P w K mg base A outer s H → BindsTo s fd args (ps.zip us) → Vals [.ref p.1] us →
    (∀ H', Same H H' → Q (.str r) H') → codeAny (model P w) A (.call (.ref f) args) (CR (L2N.CX P w) outer P w H s Q fun _ _ _ => False) s
theorem fnZ_of {P : Program} {w : World} {K : PySem.W.Frag} {mg : Str → Option Value} {base : Heap} {k : Nat} {f D : Addr} {r : Str} {name qual : Str} {params : Arguments} {body : List Stmt} {scope : Scope} {N ps : List Str} {fd : FuncData}
    (FD : FunD K name qual params body scope [] [] f fd) (S : FnScope N ps scope) (h1 : ps.length = 1)
    (hbody : ∀ (A : Around) (outer : List Env) (s : Shared) (H : Hp) (cdv : Value) (E : XK) (p : Addr × Obj), Hot1 A p → Zc (.ref D) none p.2 → RoomH k (A.deeper (envOfC qual scope s.heap.objs.size f cdv)) →
      ∃ t, PSs (cxH (L2N.CX P w) P w K mg base N qual scope f cdv A outer s H E p) body t ∧ ∀ Q : VK, (∀ H', Same H H' → Q (.str r) H') → t { nx := fun _ H' => Q .non H', rt := Q } (L2.start N [.ref p.1]) H) : FnZ P w K mg base (k + 1) f fd ps D r := by
  obtain ⟨oc, od, dV, kV, doc, pm, an, cdv, ct, osl, rfl, lk, hcd, _, _⟩ := FD.ex
  refine ⟨h1, fun A outer s H args us Q p hr hot hz hpin e0 hb rv hq => ?_⟩
  have hl : ([V.ref p.1] : List V).length = ps.length := h1.symm
  have KX : K.In s.heap := e0.mod.kin.keeps fun b o e => (e0.bs b o e).1
  have lim : s.heap.NoLimit := e0.mod.nolimit.keeps fun b o e => (e0.bs b o e).1
  have kinds : ∀ y ∈ ps.zip us, scope.names.lookup y.1 = some .local ∨ (scope.names.lookup y.1 = some .cell ∧ ((cellsFrom (s.heap.objs.size + 1) scope.names []).lookup y.1).isSome = true) := fun y hy =>
    (S.par y.1 (List.of_mem_zip (a := y.1) (b := y.2) hy).1).imp (fun q => q) fun q => ⟨q, PySem.W.cellsFrom_some _ _ _ (.inl q)⟩
  refine codeAny_call_function hr.depth (KX _ _ lk) rfl S.co S.gen rfl (PySem.W.codeRec_of KX hcd) (hb _ _ _ _ (wpAny_newFunctionEnv_cells S.kind kinds fun env he s1 x => ?_))
  subst he
  refine ⟨lim.keeps x.toInCall.keep, codeAny_func ?_⟩
  obtain ⟨t, ht, hT⟩ := hbody A outer s H cdv (fun _ _ _ => False) p hot hz (hr.deeper _)
  have I : Inv (cxH (L2N.CX P w) P w K mg base N qual scope f cdv A outer s H (fun _ _ _ => False) p) [] (L2.start N [.ref p.1]) H s1 := inv_startH S hpin e0 hl rv x
  refine wpAny_mono (ht.run [] s1 _ H _ I (hT Q hq)) (fun fl s' hs => ?_) fun e s' hs => hs
  cases fl with
  | ret u =>
    obtain ⟨v, σ', H', J, r', q⟩ := hs
    exact ⟨v, H', J.os, J.bare, J.base, J.hok, r', q⟩
  | next =>
    obtain ⟨σ', H', J, q⟩ := hs
    exact ⟨.non, H', J.os, J.bare, J.base, J.hok, rfl, q⟩
  | brk =>
    obtain ⟨_, _, _, q⟩ := hs
    exact q.elim
  | cont =>
    obtain ⟨_, _, _, q⟩ := hs
    exact q.elim
/-- f(e) in the suite, e the error -/
theorem pe_callZ {X : Cx} {k i : Nat} {f a D : Addr} {fd : FuncData} {ps : List Str} {r x n : Str} {oe : Obj} {px p pos : Pos} (F : FnZ X.prog X.w X.K X.mg X.base k f fd ps D r) (hr : RoomH k X.A) (hp : (a, oe) ∈ X.pn) (hot : Hot1 X.A (a, oe)) (hz : Zc (.ref D) none oe) (hg : Gl X x) (hm : X.mg x = some (.ref f)) (hk : PySem.W.keepIn X.K (.ref f) = true) (hb : Binds X.K fd ps [])
    (hN : X.N[i]? = some n) (hv : Vis X.env.scope n) (hd : (n == ("__debug__" : Str)) = false) (hcd : (n == ("__classdict__" : Str)) = false) (hdb : (x == ("__debug__" : Str)) = false)
    (he : starEach [.Name n px] X.env = (false, eval (.Name n px) X.env) :: starEach [] X.env) (hpl : (backTo pos (starEach [] X.env)).any (·.1) = false) :
    PE X (.Call (.Name x p) [.Name n px] [] pos) (fun σ H Q => σ[i]? = some (some (.ref a)) ∧ ∀ H', Same H H' → Q (.str r) H') := by
  refine ⟨fun pins s σ H Q I h => wpAny_Call_Name_kw (ld_glob I hg hm ?_ hdb)⟩
  refine PySem.W.callWith_K (h₀ := X.base) I.ok.mod.kin hk (thn ((pa_cons (pe_var (i := i) hN hv hd hcd) pa_nil he).run pos pins s σ H (fun vs H1 => vs = [.ref a] ∧ H1 = H) I ⟨.ref a, h.1, rfl, rfl⟩) fun us s1 ⟨vs, H1, I1, r1, e1, e2⟩ => ⟨I1.kIn, ?_⟩) he hpl
  subst e1 e2
  have P1 := I1.pin (a, oe) (List.mem_append_left _ hp)
  have b := hb s1 us I1.kIn (by rw [List.append_nil, ← r1.length, F.len]; rfl)
  rw [List.append_nil] at b
  have pin : PinOk X.stack H1 s1 (a, oe) := ⟨P1.1, P1.2.1, fun hm => (List.mem_cons.mp (I1.stkSub a hm)).elim P1.2.2.1 P1.2.2.2.1, P1.2.2.2.2⟩
  refine wpAny_call (codeAny_mono (F.run X.A X.stack s1 H1 ⟨us, []⟩ us Q (a, oe) hr hot hz pin I1.env0 b r1 h.2) fun q s' hq => ?_)
  match q, hq with
  | .error e, hq =>
    obtain ⟨_, _, _, _, _, _, _, _, _, _, _, _, z⟩ := hq
    exact z.elim
  | .ok (.ret u), hq => exact I1.after hq
  | .ok .next, hq => exact hq.elim
  | .ok .brk, hq => exact hq.elim
  | .ok .cont, hq => exact hq.elim
end TS
set_option Elab.async false
set_option linter.all false
set_option maxRecDepth 100000
set_option maxHeartbeats 4000000
set_option exponentiation.threshold 10000
/-! a lambda without parameters, handed to a def that tries it and tells the error's labels -/
namespace TS
open PySem PySem.Spec PyProof.Rows L2 HotX LamX
open L2H (HotC Hot1 PinOk RoomH cxH inv_startH roomH_of)
/-- the context of the lambda's body -/
abbrev lamN (X : Cx) (A : Around) (outer : List Env) (s : Shared) (H : Hp) (E : XK) (scope : Scope) (f c' : Addr) : Cx :=
  (lamCx X A outer s H E scope f c').wish fun e s' => wpAny (model X.prog X.w) (A.deeper (lamEnv X scope s.heap.objs.size f c')) (leaving (lamEnv X scope s.heap.objs.size f c') e) (fun _ s'' => L2N.CX X.prog X.w outer H s E e s'') (fun e' s'' => L2N.CX X.prog X.w outer H s E e' s'') s'
section
variable {X : Cx} {pins : List (Addr × Obj)} {σ : L2.St} {H HZ : Hp} {s s1 : Shared}
theorem takes_lam {A : Around} {outer : List Env} {E : XK} {scope : Scope} {f c' : Addr} : L2N.Takes (lamN X A outer s H E scope f c') (fun c d _ H => E c d H) := L2N.takes_of rfl rfl rfl rfl
/-- x(), in the def that got the lambda -/
theorem pe_actN {CXg : CXT} {Eg : XK} {Ng : List Str} {qg : Str} {sg : Scope} {g f c' : Addr} {cdg pm ctv : Value} {params : Arguments} {body : Expr} {scope : Scope} {k i : Nat} {a : Str} {pn : List (Addr × Obj)} {xe : Value → Shared → Prop} {W : WX} {E : XK} {tb : TE} {p1 p2 : Pos}
    (I : Inv X pins σ H s) (L : LamS X.env.scope scope) (hf : s.heap.get? f = some (PySem.W.kla_obj "<lambda>" (X.env.qual ++ "<lambda>") params body scope (cloFrom X.env.cells scope.names []) pm c' ctv)) (hfn : H f = none) (hfr : f ∉ frs X.stack)
    (hbind : bindArgs (PySem.W.kla_fn "<lambda>" (X.env.qual ++ "<lambda>") params body scope (cloFrom X.env.cells scope.names []) pm (.ref c') ctv) ⟨[], []⟩ = pure [])
    (tk : L2N.Takes ((cxOf CXg X.prog X.w X.K X.mg X.base Ng qg sg g cdg X.A X.stack s H Eg).tr pn xe) W) (hW : ∀ cls d σ' H', E cls d H' → W cls d σ' H') (hr : Room (k + 1) (X.A.deeper (envOfC qg sg s.heap.objs.size g cdg)))
    (hbody : ∀ (A : Around) (outer : List Env) (s : Shared) (H : Hp), Room k (A.deeper (lamEnv X scope s.heap.objs.size f c')) → PE (lamN X A outer s H E scope f c') body tb)
    (hN : Ng[i]? = some a) (hv : Vis sg a) (hd : (a == ("__debug__" : Str)) = false) (hcd : (a == ("__classdict__" : Str)) = false) :
    PE ((cxOf CXg X.prog X.w X.K X.mg X.base Ng qg sg g cdg X.A X.stack s H Eg).tr pn xe) (.Call (.Name a p1) [] [] p2) (fun τ HZ Q => τ[i]? = some (some (.ref f)) ∧ HZ c' = some (CodeO c' (X.env.qual ++ "<lambda>")) ∧ tb σ HZ Q) := by
  refine ⟨fun pZ sZ σZ HZ Q IZ ⟨hs, hc, ht⟩ => ?_⟩
  refine wpAny_Call_Name_kw (thn ((pe_var (pos := p1) (i := i) hN hv hd hcd).run pZ sZ σZ HZ (fun v H1 => v = .ref f ∧ H1 = HZ) IZ ⟨.ref f, hs, rfl, rfl⟩) fun u s1 ⟨v, H1, I1, r1, ev, eH⟩ => ?_)
  subst ev; subst eH
  obtain rfl : u = Value.ref f := r1
  have of1 := I1.base.keep f _ hf hfn hfr (fun z => nomatch (show f ∈ ([] : List Addr) from z))
  have un : Un (frs X.stack) [] H H1 s.heap s1.heap := I1.base
  obtain ⟨⟨oc, vs, t, hoc, hdc, hvc⟩, _, _⟩ := I1.hok c' _ hc
  have rc : codeAny (model X.prog X.w) (X.A.deeper (envOfC qg sg s.heap.objs.size g cdg)) (.call (.ref f) ⟨[], []⟩) (CR (L2N.CX X.prog X.w) (envOfC qg sg s.heap.objs.size g cdg :: X.stack) X.prog X.w H1 s1 Q E) s1 := by
    refine PySem.W.kla_callFunE hr.depth of1 rfl L.co L.gen rfl ⟨c', oc, vs, t, rfl, hoc, hdc, hvc⟩ ?_
    rw [hbind]
    refine wpAny_pure (wpAny_newFunctionEnv (fun y hy => (L.own y hy).2) (fun y hy => absurd hy (by simp)) (fun h₁ hns hsb => ⟨I1.nolimit.fresh _ hsb, ?_⟩) L.kind)
    have kp : ∀ b o, s1.heap.get? b = some o → h₁.get? b = some o := fun b o e => hsb.extBut b o (Nat.ne_of_lt (Heap.lt_size e)) (Heap.get?_push_of_some _ e)
    have J0 := lam_start2 (c' := c') (f := f) (E := E) (tk := s1.toks + ([] : List (Str × Value)).length) I L I1.env0 hr.hd un hns kp
    show codeAny _ _ (.expr body (lamEnv X scope s1.heap.objs.size f c')) _ _
    refine PySem.W.kla_codeExpr (wpAny_mono ((hbody _ _ s1 H1 (hr.deeper _)).run [] _ _ H1 Q (J0.wish _) ht) (fun v s' hq => ?_) fun e s' hq => hq)
    obtain ⟨w', H', J', rv, q⟩ := hq
    exact ⟨w', H', J'.os, J'.bare, J'.base, J'.hok, rv, q⟩
  have hx := L2N.passes_call tk hW
  refine PySem.W.callWith_F0 ⟨_, _, _, _, of1⟩ (wpAny_call (codeAny_mono rc fun r s' hq => ?_))
  match r, hq with
  | .error e, hq => exact hx pZ _ H1 s1 e s' I1 hq
  | .ok (.ret u), hq => exact I1.after hq
  | .ok .next, hq => exact hq.elim
  | .ok .brk, hq => exact hq.elim
  | .ok .cont, hq => exact hq.elim
/-- what is told of an error: no fields of its own, its labels known, caught by the clause's class -/
def Told (K : PySem.W.Frag) (CS : Addr) (nm : Addr → Option Str) (Q : VK) : XK := fun cls d H' => ∃ D r, cls = .ref D ∧ d = none ∧ PySem.W.exmOne K cls (.ref CS) = some true ∧ nm D = some r ∧ ∀ H'', Same H' H'' → Q (.str r) H''
def tErr (T : List (Addr × Str)) (K : PySem.W.Frag) (CS : Addr) (nm : Addr → Option Str) (t : XK → TE) : TE := fun σ H Q => Tabs T H ∧ ∀ H1, ExtN H H1 → Tabs T H1 → t (Told K CS nm Q) σ H1 fun _ H2 => Q (.str "") H2
/-- x(lambda: body), x the def: try: call(), except C as e: return names(e), return '' -/
theorem pe_err {T : List (Addr × Str)} {x a e C nmf : Str} {g c P CS fz : Addr} {fdz : FuncData} {psz : List Str} {nm : Addr → Option Str} {k kz : Nat} {pg : Arguments} {sg : Scope} {fd : FuncData} {Ng : List Str} {params : Arguments} {body : Expr} {scope : Scope} {t : XK → TE} {p lpos pos : Pos} {j1 : Nat}
    {q1 q2 q3 q4 q5 q6 q7 q8 q9 q10 q11 q12 : Pos}
    (FD : FunD X.K x x pg [.Try [.Expr (.Call (.Name a q1) [] [] q2) q3] [.ExceptHandler (some (.Name C q4)) (some e) [.Return (some (.Call (.Name nmf q5) [.Name e q6] [] q7)) q8] q9] [] [] q10, .Return (some (.Constant (.str "") j1 q11)) q12] sg [] [] g fd)
    (hg : Gl X x) (hm : X.mg x = some (.ref g)) (hb : L2.Binds X.K fd [a] []) (Sg : FnScope Ng [a] sg) (hNg : Ng[0]? = some a) (hva : Vis sg a) (hNe : Ng[1]? = some e) (hle : sg.names.lookup e = some .local)
    (hgC : sg.names.lookup C = some .globalImplicit) (hmC : X.mg C = some (.ref CS)) (hgn : sg.names.lookup nmf = some .globalImplicit) (hmn : X.mg nmf = some (.ref fz)) (hkz : PySem.W.keepIn X.K (.ref fz) = true) (hbz : L2.Binds X.K fdz psz [])
    (hZ : ∀ D r, nm D = some r → FnZ X.prog X.w X.K X.mg X.base kz fz fdz psz D r)
    (TB : TabB X.base X.mg c P) (hcode : X.env.code = .ref c) (hmT : (P, X.env.qual ++ "<lambda>") ∈ T) (hu : ∀ p ∈ T, p.1 = P → p.2 = X.env.qual ++ "<lambda>") (hr : Room (k + 2) X.A) (hkk : kz ≤ k + 1) (L : LamS X.env.scope scope) (hdef : defaultsOf params X.env = ([], []))
    (hbind : ∀ (q : Str) (cl : List (Str × Addr)) (pm cv ctv : Value), bindArgs (PySem.W.kla_fn "<lambda>" q params body scope cl pm cv ctv) ⟨[], []⟩ = pure [])
    (hbody : ∀ (A : Around) (outer : List Env) (s : Shared) (H : Hp) (E : XK) (f c' : Addr), Room k (A.deeper (lamEnv X scope s.heap.objs.size f c')) → PE (lamN X A outer s H E scope f c') body (t E))
    (hdb : (x == ("__debug__" : Str)) = false) (hd : (a == ("__debug__" : Str)) = false) (hcd : (a == ("__classdict__" : Str)) = false) (hdC : (C == ("__debug__" : Str)) = false) (hdn : (nmf == ("__debug__" : Str)) = false) (hde : (e == ("__debug__" : Str)) = false) (hce : (e == ("__classdict__" : Str)) = false)
    (h0 : ∀ f : Addr, (L2.start Ng [V.ref f])[0]? = some (some (V.ref f))) :
    PE X (.Call (.Name x p) [.Lambda params body scope lpos] [] pos) (tErr T X.K CS nm t) := by
  obtain ⟨oc, od, dV, kV, doc, pm, an, cdv, ct, osl, rfl, lk, hcg, _, _⟩ := FD.ex
  refine ⟨fun pins s σo H Q I ⟨hT, h⟩ => wpAny_Call_Name_kw (ld_glob I hg hm (PySem.W.callWith_K (h₀ := X.base) I.ok.mod.kin FD.kp ?_ (by rfl) (by rfl)) hdb)⟩
  show wpAny _ _ (spliced ((false, eval (.Lambda params body scope lpos) X.env) :: backTo pos (starEach [] X.env))) _ _ s
  refine Calls.spliced_cons (lam_make2 I TB hcode hmT hu hT hdef (L.has I.ok) fun f c' pm' ctv H1 s' I1 eN T1 hf hfn hfr hco => Calls.spliced_nil ⟨I1.kIn, ?_⟩)
  have rc : codeAny (model X.prog X.w) X.A (.call (.ref g) ⟨[.ref f], []⟩) (CR C8.CX0 X.stack X.prog X.w H1 s' Q C8.E0) s' := by
    refine run_ofS (N := Ng) (ps := [a]) (us := [.ref f]) (vs := [.ref f]) lk hcg Sg hr I1.env0 (hb s' [.ref f] I1.kIn rfl) (.cons rfl .nil) rfl fun hr' => ?_
    have hgl : Gl (cxOf C8.CX0 X.prog X.w X.K X.mg X.base Ng x sg g cdv X.A X.stack s' H1 C8.E0).nox C := hgC
    have takes0N : L2N.Takes (cxOf C8.CX0 X.prog X.w X.K X.mg X.base Ng x sg g cdv X.A X.stack s' H1 C8.E0).nox (fun _ _ _ _ => False) := fun _ _ x => by
      obtain ⟨_, _, _, _, _, _, _, _, _, _, _, _, _, _, _, _, z⟩ := x
      exact z.elim
    have bodyP : ∀ (W : WX) (pn : List (Addr × Obj)) (xe : Value → Shared → Prop), L2N.Takes ((cxOf C8.CX0 X.prog X.w X.K X.mg X.base Ng x sg g cdv X.A X.stack s' H1 C8.E0).nox.tr pn xe) W →
        PSs ((cxOf C8.CX0 X.prog X.w X.K X.mg X.base Ng x sg g cdv X.A X.stack s' H1 C8.E0).nox.tr pn xe) [.Expr (.Call (.Name a q1) [] [] q2) q3] (fun B τ H => ∃ Ech : XK, (∀ cls d σ' H', Ech cls d H' → W cls d σ' H') ∧ τ[0]? = some (some (.ref f)) ∧ H c' = some (CodeO c' (X.env.qual ++ "<lambda>")) ∧ t Ech σo H fun _ H2 => B.nx τ H2) := fun W pn xe tk => by
      refine ⟨fun pZ sZ τ HZ B IZ ⟨Ech, hW, e1, e2, e3⟩ => ?_⟩
      have q := pe_actN (CXg := C8.CX0) (Eg := C8.E0) (Ng := Ng) (pn := pn) (xe := xe) (i := 0) (p1 := q1) (p2 := q2) I1 L hf hfn hfr (hbind _ _ _ _ _) tk hW hr' (fun A outer s H hr2 => hbody A outer s H Ech f c' hr2) hNg hva hd hcd
      exact (pss_one (ps_expr q)).run pZ sZ τ HZ B IZ ⟨e1, e2, e3⟩
    have suiteP : ∀ (b : Addr) (oe : Obj) (cls : Value) (d : Option Addr) (pn : List (Addr × Obj)), L2N.Zn cls d oe → (∃ vs, oe.data = .fields vs) →
        PSs ((cxOf C8.CX0 X.prog X.w X.K X.mg X.base Ng x sg g cdv X.A X.stack s' H1 C8.E0).nox.suite b ((b, oe) :: pn)) [.Return (some (.Call (.Name nmf q5) [.Name e q6] [] q7)) q8] (fun B τ H => ∃ (D : Addr) (r : Str) (τ1 : L2.St), cls = .ref D ∧ d = none ∧ nm D = some r ∧ τ = τ1.set 1 (some (.ref b)) ∧ ∀ H', Same H H' → B.rt (.str r) H') := fun b oe cls d pn hz hfd => by
      refine ⟨fun pZ sZ τ HZ B IZ ⟨D, r, τ1, ec, ed, en, e0, e2⟩ => ?_⟩
      subst ec ed
      have e1 : τ[1]? = some (some (.ref b)) := by
        have hl : τ.length = Ng.length := IZ.len
        rw [e0, List.length_set] at hl
        have h2 : 1 < Ng.length := (List.getElem?_eq_some_iff.mp hNe).1
        rw [e0]
        exact List.getElem?_set_self (by omega)
      obtain ⟨vs, hvs⟩ := hfd
      exact (pss_one (ps_ret (pe_callZ (X := (cxOf C8.CX0 X.prog X.w X.K X.mg X.base Ng x sg g cdv X.A X.stack s' H1 C8.E0).nox.suite b ((b, oe) :: pn)) (i := 1) (hZ D r en) ⟨((roomH_of hr').mono hkk).dp, ((roomH_of hr').mono hkk).un⟩ List.mem_cons_self ⟨rfl, vs, hvs, hz.2.2 vs hvs⟩ hz.zc hgn hmn hkz hbz hNe (Or.inl hle) hde hce hdn (by rfl) (by rfl)))).run pZ sZ τ HZ B IZ ⟨e1, e2⟩
    refine ⟨_, PSs.nox (pss_cons (L2N.ps_try_as (X := (cxOf C8.CX0 X.prog X.w X.K X.mg X.base Ng x sg g cdv X.A X.stack s' H1 C8.E0).nox) (c := .ref CS) (i := 1)
      rfl rfl Sg.nd hNe hle ⟨hgl, hdC, .inl hmC⟩ takes0N (fun W pn xe tk _ => bodyP W pn xe tk) (fun a oe cls d pn hz hfd => suiteP a oe cls d pn hz hfd)) (pss_one (ps_ret pe_str))), ?_⟩
    refine ⟨Told X.K CS nm Q, fun cls d σ' H' ⟨D, r, ec, ed, ex, en, hq⟩ => ⟨true, ex, fun _ b hbn => ⟨D, r, σ', ec, ed, en, rfl, fun H'' sm => hq H'' sm⟩, fun z => nomatch z⟩, h0 f, hco, h H1 eN T1⟩
  refine wpAny_call (codeAny_mono rc fun r s2 hq => ?_)
  match r, hq with
  | .error e, hq => exact (show False from hq).elim
  | .ok (.ret u), hq => exact I1.after hq
  | .ok .next, hq => exact hq.elim
  | .ok .brk, hq => exact hq.elim
  | .ok .cont, hq => exact hq.elim
end
end TS
set_option Elab.async false
set_option linter.all false
set_option maxRecDepth 100000
set_option maxHeartbeats 4000000
set_option exponentiation.threshold 10000
namespace TS
open PySem PySem.Spec PyProof.Rows L2 LamX
/-! ### tables of code objects -/
instance goodTabs {K : PySem.W.Frag} {mg : Str → Option Value} {T : List (Addr × Str)} : GoodJ ⟨K, mg, Tabs T⟩ := ⟨fun H H' k t p hp => by
  obtain ⟨ps, h1, h2, h3⟩ := t p hp
  refine ⟨ps, k _ _ h1 (fun z => z), h2, fun pos cv hc => ?_⟩
  obtain ⟨c, e1, e2⟩ := h3 pos cv hc
  exact ⟨c, e1, k _ _ e2 (fun z => z)⟩⟩
section
variable {Z : Zx} {σ : L2.St} {ρ : Rho} {H H1 : Hp} {G : Addr → Prop}
theorem extN_keep (e : ExtN H H1) {a : Addr} {o : HO} (h : H a = some o) (n : ¬ Tbl o) : H1 a = some o := e a o h fun ps z => n (by rw [z]; exact trivial)
theorem Ok.extN (k : Ok Z σ ρ H G) (e : ExtN H H1) (j : Z.J H1) : Ok Z σ ρ H1 G ∧ Stp Z σ ρ H σ ρ H1 := by
  have sub : Sub (vis H (Hid ρ σ G)) (vis H1 (Hid ρ σ G)) := vis_sub fun a o h n m => ⟨n, extN_keep e h m⟩
  refine ⟨⟨k.len, fun i d q => ?_, fun i xs q => ?_, k.inj, j, fun a z => ?_⟩, ⟨fun a o h n _ => extN_keep e h n, fun _ _ _ _ n => n, fun i xs q => ⟨rfl, xs, q⟩⟩⟩
  · obtain ⟨v, h1, h2⟩ := k.val i d q
    exact ⟨v, h1, h2.sub sub⟩
  · obtain ⟨a, vs, h1, h2, h3, h4⟩ := k.own i xs q
    exact ⟨a, vs, h1, extN_keep e h2 (fun z => z), h3.sub sub, h4⟩
  · obtain ⟨o, h1, h2⟩ := k.gt a z
    exact ⟨o, extN_keep e h1 h2, h2⟩
end
/-- x(lambda: body), as data: the labels of the error, or no text -/
def dErr (nm : Str → Option Str) (t : DE) : DE := fun ρ Q E => t ρ (fun _ ρ' => Q (.str "") ρ') (fun x ρ' => x.pay = none ∧ ∃ r, nm x.cls = some r ∧ Q (.str r) ρ')
theorem up_err {Z : Zx} {W : WX} {T : List (Addr × Str)} {CS : Addr} {nmA : Addr → Option Str} {nm : Str → Option Str} {td : DE} {K : PySem.W.Frag} (hJ : ∀ H, Z.J H → Tabs T H) (hJ' : ∀ H, Tabs T H → Z.J H) [GoodJ Z]
    (hC : ∀ n r D, nm n = some r → Z.mg n = some (.ref D) → PySem.W.exmOne K (.ref D) (.ref CS) = some true ∧ nmA D = some r) (σ : L2.St) (H : Hp) (Q : VK) (h : upE Z W (dErr nm td) σ H Q) : tErr T K CS nmA (fun E => upE Z (WD E) td) σ H Q := by
  obtain ⟨ρ, G, Qd, E, ok, h, hq, hx⟩ := h
  refine ⟨hJ H ok.j, fun H1 e t1 => ?_⟩
  obtain ⟨k1, s1⟩ := ok.extN e (hJ' H1 t1)
  refine ⟨ρ, G, _, _, k1, h, fun d v ρ2 H2 ok2 s2 r2 q2 => hq (.str "") _ ρ2 H2 ok2 (s1.trans s2) rfl q2, fun x c dd ρ2 H2 ok2 s2 p e2 => ?_⟩
  obtain ⟨hp, r, hn, q2⟩ := e2
  obtain ⟨D, h1, h2, h3⟩ := p
  rw [hp] at h3
  obtain ⟨h4, h5⟩ := hC _ _ _ hn h1
  subst h2
  exact ⟨D, r, rfl, h3, h4, h5, fun H3 sm => hq (.str r) _ ρ2 H3 (ok2.ext sm) ((s1.trans s2).trans (.ext sm)) rfl q2⟩
end TS
set_option Elab.async false
set_option linter.all false
set_option maxRecDepth 100000
set_option maxHeartbeats 4000000
set_option exponentiation.threshold 10000
namespace TS
open PySem PySem.Spec PyProof.Rows L2
/-! ### the first place of an item -/
def ixOf (p : D → Bool) : List D → Option Nat
  | [] => none
  | d :: ds => if p d then some 0 else (ixOf p ds).map (· + 1)
theorem ixOf_some {p : D → Bool} : ∀ {ds : List D} {j : Nat}, ixOf p ds = some j → (∃ d, ds[j]? = some d ∧ p d = true) ∧ ∀ m, m < j → ∀ d, ds[m]? = some d → p d = false
  | [], j, h => by simp [ixOf] at h
  | d :: ds, j, h => by
    unfold ixOf at h
    by_cases hp : p d = true
    · rw [if_pos hp] at h
      cases h
      exact ⟨⟨d, rfl, hp⟩, fun m hm => absurd hm (by omega)⟩
    · rw [if_neg hp] at h
      cases e : ixOf p ds with
      | none => rw [e] at h; cases h
      | some k =>
        rw [e] at h
        cases h
        obtain ⟨⟨d', h1, h2⟩, h3⟩ := ixOf_some e
        refine ⟨⟨d', by simpa using h1, h2⟩, fun m hm d'' hd => ?_⟩
        cases m with
        | zero =>
          simp at hd
          rw [← hd]
          exact Bool.eq_false_iff.mpr hp
        | succ m => exact h3 m (Nat.lt_of_succ_lt_succ hm) d'' (by simpa using hd)
def flatAll (ds : List D) : Bool := ds.all flatD
/-- e.index(x) of a list -/
def dIxL (te : DE) (tx : DA) : DE := fun ρ Q E => te ρ (fun d ρ1 => ∃ ds, d = .lst ds ∧ tx ρ1 (fun xs ρ2 => ∃ x j, xs = [x] ∧ (flatD x = true ∧ flatAll ds = true) ∧ ixOf (fun y => eqD y x) ds = some j ∧ Q (.int (j : Nat)) ρ2) E) E
/-- the same of a tuple of texts of the module -/
def dIxT (ns : List Str) (tx : DA) : DE := fun ρ Q E => tx ρ (fun xs ρ2 => ∃ z j, xs = [.str z] ∧ ixOf (fun y => eqD y (.str z)) (ns.map D.str) = some j ∧ Q (.int (j : Nat)) ρ2) E
section
variable {X : Cx} {Z : Zx} {W : WX}
theorem de_ixL [F : Fit X Z] {o e : Expr} {te : DE} {tx : DA} {apos cpos : Pos} (ho : PE X o (upE Z W te)) (ha : PA X [e] (upA Z W tx)) (hbase : attributeBase o "index" X.env (eval o X.env) = eval o X.env := by rfl)
    (hfew : ((backTo cpos (starEach [e] X.env)).all (fun x => !x.1) && (backToKw cpos (keywordEach [] X.env)).all (fun x => x.1.isSome) && decide ([e].length + ([] : List Keyword).length + (if ([] : List Keyword).isEmpty then 0 else 1) < 30)) = true := by rfl)
    (hline : (apos.endLine == cpos.line) = true := by rfl) (hs : starEach [e] X.env = (false, eval e X.env) :: starEach [] X.env := by rfl) (hpl : (backTo cpos (starEach [] X.env)).any (·.1) = false := by rfl) :
    PE X (.Call (.Attribute o "index" apos) [e] [] cpos) (upE Z W (dIxL te tx)) := PE.wk (pe_bm PySem.F.plainAttrs_list PySem.F.slot_list_index PySem.F.type_list_index mt_index ho ha hbase hfew hline hs hpl) fun σ H Q ⟨ρ, G, Qd, E, ok, h, hq, hx⟩ => by
  refine ⟨ρ, G, _, E, ok, h, fun d v ρ1 H1 ok1 s1 r1 h1 => ?_, hx⟩
  obtain ⟨ds, rfl, h1⟩ := h1
  obtain ⟨a, vs, rfl, e1, r⟩ := r1
  refine ⟨.inl ⟨rfl, vs, .of (vis_some.mp e1).2⟩, ρ1, G, _, E, ok1, h1, fun xs ws ρ2 H2 ok2 s2 r2 h2 => ?_, hx.step s1⟩
  obtain ⟨x, j, rfl, ⟨f1, f2⟩, h3, h4⟩ := h2
  obtain ⟨u, rfl, ru⟩ := r2.one
  have e2 := s2.vis (G := G) _ _ e1 (fun z => z)
  have r' : RpL Z (vis H2 (Hid ρ2 σ G)) ds vs := r.sub s2.vis
  obtain ⟨⟨d, h5, h6⟩, h7⟩ := ixOf_some h3
  obtain ⟨w, h8, h9⟩ := r'.get h5
  have fd : ∀ y ∈ ds, flatD y = true := fun y hy => List.all_eq_true.mp f2 y hy
  refine ⟨a, vs, u, j, w, rfl, rfl, by rw [F.K]; exact .of (vis_some.mp e2).2, ru.flat f1, r'.flat f2, h8, by rw [eqV_eqD h9 ru (fd d (List.mem_of_getElem? h5)) f1]; exact h6, fun m z' hm hz => ?_, hq (.int (j : Nat)) _ ρ2 H2 ok2 (s1.trans s2) rfl h4⟩
  obtain ⟨d', h10, h11⟩ := r'.getV hz
  rw [eqV_eqD h11 ru (fd d' (List.mem_of_getElem? h10)) f1]
  exact h7 m hm d' h10
theorem de_ixT [F : Fit X Z] {x : Str} {a : Addr} {ns : List Str} {e : Expr} {tx : DA} {px apos cpos : Pos} (hm : Z.mg x = some (.ref a)) (hk : ∃ o, Z.K.lookup a = some o ∧ o.cls = .type "tuple" ∧ o.dict = none) (hS : ∀ H, SqT Z.K H a (ns.map V.str)) (ha : PA X [e] (upA Z W tx)) (hg : Gl X x := by rfl) (hd : (x == ("__debug__" : Str)) = false := by decide)
    (hbase : attributeBase (.Name x px) "index" X.env (eval (.Name x px) X.env) = eval (.Name x px) X.env := by rfl)
    (hfew : ((backTo cpos (starEach [e] X.env)).all (fun x => !x.1) && (backToKw cpos (keywordEach [] X.env)).all (fun x => x.1.isSome) && decide ([e].length + ([] : List Keyword).length + (if ([] : List Keyword).isEmpty then 0 else 1) < 30)) = true := by rfl)
    (hline : (apos.endLine == cpos.line) = true := by rfl) (hs : starEach [e] X.env = (false, eval e X.env) :: starEach [] X.env := by rfl) (hpl : (backTo cpos (starEach [] X.env)).any (·.1) = false := by rfl) :
    PE X (.Call (.Attribute (.Name x px) "index" apos) [e] [] cpos) (upE Z W (dIxT ns tx)) :=
  PE.wk (pe_bm PySem.F.plainAttrs_tuple PySem.F.slot_tuple_index PySem.F.type_tuple_index mt_tup_index (pe_glob (v := .ref a) hg (by rw [F.mg]; exact hm) rfl hd) ha hbase hfew hline hs hpl) fun σ H Q ⟨ρ, G, Qd, E, ok, h, hq, hx⟩ => by
    refine ⟨.inr (.inl ⟨rfl, by rw [F.K]; exact hk⟩), ρ, G, _, E, ok, h, fun xs ws ρ2 H2 ok2 s2 r2 h2 => ?_, hx⟩
    obtain ⟨z, j, rfl, h3, h4⟩ := h2
    obtain ⟨u, rfl, ru⟩ := r2.one
    cases ru
    obtain ⟨⟨d, h5, h6⟩, h7⟩ := ixOf_some h3
    have q : ∀ (m : Nat) (w : Str), ns[m]? = some w → (ns.map D.str)[m]? = some (.str w) := fun m w hw => by rw [List.getElem?_map, hw]; rfl
    refine ⟨a, ns, z, j, rfl, rfl, by rw [F.K]; exact hS H2, ?_, fun m hm hw => ?_, hq (.int (j : Nat)) _ ρ2 H2 ok2 s2 rfl h4⟩
    · rw [List.getElem?_map] at h5
      cases e1 : ns[j]? with
      | none => rw [e1] at h5; cases h5
      | some w =>
        rw [e1] at h5
        cases h5
        simp only [eqD, beq_iff_eq] at h6
        rw [h6]
    · have := h7 m hm _ (q m z hw)
      simp [eqD] at this
/-! ### list(range(n)), [..] * k -/
def nRg1 (t : DE) : DA := fun ρ Q E => t ρ (fun d ρ' => ∃ n : Int, d = .int n ∧ (0 ≤ n ∧ n ≤ 1000000) ∧ Q ((List.range n.toNat).map fun (i : Nat) => D.int (0 + i)) ρ') E
theorem RpL.range {A : Hp} {a : Int} : ∀ n : Nat, ∀ f : Nat → Nat, RpL Z A ((List.range n).map fun i => D.int (a + (f i : Nat))) ((List.range n).map fun i => V.int (a + (f i : Nat)))
  | 0, f => trivial
  | n + 1, f => by
    rw [List.range_succ_eq_map, List.map_cons, List.map_cons, List.map_map, List.map_map]
    exact ⟨rfl, RpL.range n (fun i => f (i + 1))⟩
theorem de_listRg [GoodJ Z] [F : Fit X Z] {e : Expr} {t : DE} {p p2 pos pos2 : Pos} (hc : X.calm = true) (hm : Z.mg "list" = none) (hm2 : Z.mg "range" = none) (he : PE X e (upE Z W t)) (hg : Gl X "list" := by rfl) (hg2 : Gl X "range" := by rfl)
    (na : starEach [.Call (.Name "range" p2) [e] [] pos2] X.env = (false, eval (.Call (.Name "range" p2) [e] [] pos2) X.env) :: starEach [] X.env := by rfl) (na2 : starEach [e] X.env = (false, eval e X.env) :: starEach [] X.env := by rfl) :
    PE X (.Call (.Name "list" p) [.Call (.Name "range" p2) [e] [] pos2] [] pos) (upN Z W (nRg1 t)) := PE.wk (pe_listRg hc hg (by rw [F.mg]; exact hm) (prg_1 hg2 (by rw [F.mg]; exact hm2) he na2) na) fun σ H Q ⟨ρ, G, Qd, E, ok, h, hq, hx⟩ => by
  refine ⟨ρ, G, _, E, ok, h, fun d v ρ1 H1 ok1 s1 r1 h1 => ?_, hx⟩
  obtain ⟨n, rfl, hb, h2⟩ := h1
  cases r1
  refine ⟨n, rfl, ⟨by omega, by omega, by omega, by omega, by omega⟩, fun p hp => ?_⟩
  have r : RpL Z (vis H1 (Hid ρ1 σ G)) ((List.range n.toNat).map fun (i : Nat) => D.int (0 + i)) (rgV 0 n) := by
    have e : rgV 0 n = (List.range n.toNat).map fun i => V.int (0 + (i : Nat)) := by
      unfold rgV
      rw [show (n - 0 : Int) = n by omega]
    rw [e]
    exact RpL.range n.toNat fun i => i
  obtain ⟨k1, k2, k3⟩ := ok1.laid hp r
  exact hq _ _ p ρ1 _ k1 (s1.trans (.ext (same_upd hp))) (s1.frs hp) k2 upd_same k3 h2
def oRep : O2
  | .lst ds, .int k, Q => (0 ≤ k ∧ k ≤ 1000 ∧ ds.length ≤ 1000) ∧ Q (.lst (List.replicate k.toNat ds).flatten)
  | _, _, _ => False
theorem RpL.rep {A : Hp} {ds : List D} {vs : List V} (r : RpL Z A ds vs) : ∀ n : Nat, RpL Z A (List.replicate n ds).flatten (List.replicate n vs).flatten
  | 0 => trivial
  | n + 1 => by
    rw [List.replicate_succ, List.replicate_succ, List.flatten_cons, List.flatten_cons]
    exact r.append (RpL.rep r n)
theorem ok_rep [GoodJ Z] : OpOk Z rRep oRep := by
  intro σ ρ H G x y v u Qd Q ok rx ry h hq
  cases x with
  | lst ds =>
    cases y with
    | int k =>
      obtain ⟨a, vs, rfl, q, r⟩ := rx
      cases ry
      obtain ⟨⟨h1, h2, h3⟩, h4⟩ := h
      refine ⟨a, k, vs, rfl, rfl, (vis_some.mp q).2, by omega, by omega, ?_, fun p hp => ?_⟩
      · rw [← r.len]
        have e1 : ds.length * k.toNat ≤ 1000 * 1000 := Nat.mul_le_mul h3 (by omega)
        exact Nat.le_trans e1 (by rw [sizeLine_eq]; decide)
      · exact hq (.lst _) _ _ (same_upd hp) ⟨p, _, rfl, ok.freshV hp, (r.rep _).sub (vis_ext (same_upd hp))⟩ h4
    | _ => exact h.elim
  | _ => exact h.elim
/-! ### calls without arguments -/
def dCall0 (F : FS) : DE := fun ρ Q _ => F [] (fun d _ => Q d ρ) (fun _ _ => False)
theorem de_call0 [F : Fit X Z] {k : Nat} {x : Str} {f : FS} {p pos : Pos} (d : Df X.prog X.w X.base Z k x 0 f) (hr : Room k X.A) (hg : Gl X x := by rfl) (hdb : (x == ("__debug__" : Str)) = false := by decide) : PE X (.Call (.Name x p) [] [] pos) (upE Z W (dCall0 f)) := by
  obtain ⟨fa, fd, ps, hF, hm, hk, hb⟩ := d.ex
  have hK := F.K
  have hM := F.mg
  rw [← hK, ← hM] at hF
  have hx : Passes (L2N.CX X.prog X.w) X (fun _ _ _ => False) := fun _ _ _ _ _ _ _ ⟨_, _, _, _, _, _, _, _, _, _, _, _, z⟩ => z.elim
  refine PE.wk (pe_call0 hF hr hg (by rw [hM]; exact hm) (by rw [hK]; exact hk) (by rw [hK]; exact hb) .nil hx hdb) fun σ H Q ⟨ρ, G, Qd, E, ok, h, hq, hxp⟩ => ?_
  have ok0 : Ok Z (([] : List V).map some) (vals []) H (Hid ρ σ G) := ok.args (ds := []) (vs := []) trivial
  refine ⟨rfl, vals [], Hid ρ σ G, _, _, ok0, h, fun d v as' H' ok' s' r' q' => ?_, fun x c dd as' H' _ _ _ q' => q'⟩
  obtain ⟨b1, b2, b3⟩ := ok.back s' ok'.j
  exact hq d v ρ H' b1 b2 (r'.sub b3) q'
end
end TS
set_option Elab.async false
set_option linter.all false
set_option maxRecDepth 100000
set_option maxHeartbeats 4000000
set_option exponentiation.threshold 10000
/-! defs that give back a new list, for the caller to own -/
namespace TS
open PySem PySem.Spec PyProof.Rows L2
def GP (G : Addr → Prop) (p : Addr) : Addr → Prop := fun a => G a ∨ a = p
def upFN (Z : Zx) (n : Nat) (F : FS) : Sp := fun vs H Q E => vs.length = n ∧ ∃ ds G Qd Ed, Ok Z (vs.map some) (vals ds) H G ∧ F (vals ds) Qd Ed ∧
  (∀ es ws p H', Ok Z (vs.map some) (vals ds) H' (fun a => G a ∨ a = p) → Stp Z (vs.map some) (vals ds) H (vs.map some) (vals ds) H' → (∀ o, H p = some o → Tbl o) → ¬ G p → H' p = some (.lst ws) → RpL Z (vis H' (Hid (vals ds) (vs.map some) fun a => G a ∨ a = p)) es ws → Qd (.lst es) (vals ds) → Q (.ref p) H') ∧
  (∀ x c dd H', Ok Z (vs.map some) (vals ds) H' G → Stp Z (vs.map some) (vals ds) H (vs.map some) (vals ds) H' → Pay Z H' x c dd → Ed x (vals ds) → E c dd H')
structure DfN (P : Program) (w : World) (base : Heap) (Z : Zx) (k : Nat) (n : Str) (m : Nat) (F : FS) : Prop where
  ex : ∃ (f : Addr) (fd : FuncData) (ps : List Str), FnOk P w Z.K Z.mg base (L2N.CX P w) k f fd ps (upFN Z m F) ∧ Z.mg n = some (.ref f) ∧ PySem.W.keepIn Z.K (.ref f) = true ∧ Binds Z.K fd ps []
def nCall (n : Nat) (F : FS) (t : DA) : DA := fun ρ Q E => t ρ (fun ds ρ1 => ds.length = n ∧ F (vals ds) (fun d _ => ∃ l, d = .lst l ∧ Q l ρ1) (fun x _ => E x ρ1)) E
section
variable {X : Cx} {Z : Zx} {W : WX} {σ : L2.St} {ρ : Rho} {H : Hp} {G : Addr → Prop}
theorem Stp.frs2 {σ1 : L2.St} {ρ1 : Rho} {H1 : Hp} {p : Addr} (s : Stp Z σ ρ H σ1 ρ1 H1) (f : Frs σ1 ρ1 H1 p) : Frs σ ρ H p := fun o ho hn => Classical.byContradiction fun z => s.out p o ho hn z (f o (s.keep p o ho hn z) hn)
theorem de_callN [F : Fit X Z] {k n : Nat} {x : Str} {e : Expr} {es : List Expr} {f : FS} {t : DA} {p pos : Pos} (d : DfN X.prog X.w X.base Z k x n f) (tk : L2N.Takes X W) (hr : Room k X.A) (ha : PA X (e :: es) (upA Z W t)) (hg : Gl X x := by rfl)
    (hdb : (x == ("__debug__" : Str)) = false := by decide) (he : starEach (e :: es) X.env = (false, eval e X.env) :: starEach es X.env := by rfl) (hpl : (backTo pos (starEach es X.env)).any (·.1) = false := by rfl) :
    PE X (.Call (.Name x p) (e :: es) [] pos) (upN Z W (nCall n f t)) := by
  obtain ⟨fa, fd, ps, hF, hm, hk, hb⟩ := d.ex
  have hK := F.K
  have hM := F.mg
  rw [← hK, ← hM] at hF
  refine PE.wk (pe_callS hF hr hg (by rw [hM]; exact hm) (by rw [hK]; exact hk) (by rw [hK]; exact hb) (fun σ => L2N.passAt tk σ) ha hdb he hpl) fun σ H Q ⟨ρ, G, Qd, E, ok, h, hq, hx⟩ => ?_
  refine ⟨ρ, G, _, E, ok, h, fun ds vs ρ1 H1 ok1 s1 r1 h1 => ?_, hx⟩
  obtain ⟨hl', h1⟩ := h1
  refine ⟨by rw [← r1.len]; exact hl', ds, Hid ρ1 σ G, _, _, ok1.args r1, h1, fun l ws q H' ok' s' fr ng hq' r' q' => ?_, fun x c dd H' ok' s' p' q' => ?_⟩
  · obtain ⟨l', e1, q'⟩ := q'
    cases e1
    have keep : ∀ a o, H1 a = some o → ¬ Tbl o → H' a = some o := fun a o h n => s'.keep a o h n vals_ow
    have ne : ∀ a o, H1 a = some o → ¬ Tbl o → a ≠ q := fun a o h n z => n (fr o (by rw [← z]; exact h))
    have nq : ¬ Hid ρ1 σ G q := ng
    have eH : ∀ a, Hid ρ1 σ (fun a => G a ∨ a = q) a → Hid (vals ds) (vs.map some) (fun a => Hid ρ1 σ G a ∨ a = q) a := fun a z => by
      rcases z with (z | z) | z
      · exact .inl (.inl (.inl z))
      · exact .inl (.inr z)
      · exact .inl (.inl (.inr z))
    have sub : Sub (vis H1 (Hid ρ1 σ G)) (vis H' (Hid ρ1 σ fun a => G a ∨ a = q)) := vis_sub fun a o h n m => ⟨fun z => by
      rcases z with (z | z) | z
      · exact n (.inl z)
      · exact ne a o h m z
      · exact n (.inr z), keep a o h m⟩
    have okR : Ok Z σ ρ1 H' (fun a => G a ∨ a = q) := ⟨ok1.len, fun i d e => by
        obtain ⟨v, h1, h2⟩ := ok1.val i d e
        exact ⟨v, h1, h2.sub sub⟩, fun i xs e => by
        obtain ⟨a, us, h1, h2, h3, h4⟩ := ok1.own i xs e
        exact ⟨a, us, h1, keep a _ h2 (fun z => z), h3.sub sub, fun z => z.elim h4 (ne a _ h2 (fun z => z))⟩, ok1.inj, ok'.j, fun a z => by
        rcases z with z | z
        · obtain ⟨o, h1, h2⟩ := ok1.gt a z
          exact ⟨o, keep a o h1 h2, h2⟩
        · rw [z]
          exact ⟨_, hq', fun z => z⟩⟩
    have st : Stp Z σ ρ1 H1 σ ρ1 H' := ⟨fun a o h n _ => keep a o h n, fun _ _ _ _ n => n, fun i xs e => ⟨rfl, xs, e⟩⟩
    exact hq l ws q ρ1 H' okR (s1.trans st) (s1.frs2 fun o ho hn => absurd (fr o ho) hn) nq hq' (r'.sub (vis_sub fun a o h n _ => ⟨fun z => n (eH a z), h⟩)) q'
  · obtain ⟨b1, b2, _⟩ := ok1.back s' ok'.j
    exact hx x c dd ρ1 H' b1 (s1.trans b2) p' q'
/-! ### their bodies -/
def upSN (Z : Zx) (W : WX) (t : DS) : TS := fun B σ H => ∃ ρ G DD E, Ok Z σ ρ H G ∧ t DD E ρ ∧
  (∀ ds ws p σ' ρ' H', Ok Z σ' ρ' H' (fun a => G a ∨ a = p) → Stp Z σ ρ H σ' ρ' H' → Frs σ ρ H p → ¬ Hid ρ' σ' G p → H' p = some (.lst ws) → RpL Z (vis H' (Hid ρ' σ' fun a => G a ∨ a = p)) ds ws → DD.rt (.lst ds) ρ' → B.rt (.ref p) H') ∧ XP Z W σ ρ H G E
theorem dssN_cons {s : Stmt} {r : List Stmt} {t u : DS} (h1 : PS X s (upS Z W t)) (hn : ∀ DD E ρ, t DD E ρ → t { nx := DD.nx, rt := fun _ _ => False } E ρ) (h2 : PSs X r (upSN Z W u)) : PSs X (s :: r) (upSN Z W (sSeq t u)) := PSs.wk (pss_cons h1 h2) fun B σ H ⟨ρ, G, DD, E, ok, h, hq, hx⟩ =>
  ⟨ρ, G, _, E, ok, hn _ _ _ h, fun σ1 ρ1 H1 ok1 s1 => ⟨fun q => ⟨ρ1, G, DD, E, ok1, q, fun ds ws p σ2 ρ2 H2 ok2 s2 f2 n2 e2 r2 q2 => hq ds ws p σ2 ρ2 H2 ok2 (s1.trans s2) (s1.frs2 f2) n2 e2 r2 q2, hx.step s1⟩, fun z => z.elim, fun z => z.elim, fun _ _ _ z => z.elim⟩, hx⟩
theorem dssN_ret {e : Expr} {t : DA} {pos : Pos} (he : PE X e (upN Z W t)) : PSs X [.Return (some e) pos] (upSN Z W (sRet (dOfN t))) := PSs.wk (pss_one (ps_ret he)) fun B σ H ⟨ρ, G, DD, E, ok, h, hq, hx⟩ =>
  ⟨ρ, G, _, E, ok, h, fun ds ws p ρ1 H1 ok1 s1 f1 n1 e1 r1 h1 => hq ds ws p σ ρ1 H1 ok1 s1 f1 n1 e1 r1 h1, hx.e⟩
end
theorem DfN.of {P : Program} {w : World} {base : Heap} {Z : Zx} {N ps : List Str} {scope : Scope} {body : List Stmt} {params : Arguments} {f : Addr} {fd : FuncData} {n : Str} {k m : Nat} {F : FS} {t : DS} (FD : FunD Z.K n n params body scope [] [] f fd) (S : FnScope N ps scope) (hm : Z.mg n = some (.ref f))
    (hb : ∀ (kV doc pm : Value) (an : Option Addr) (cdv ct : Value) (us : List Value), us.length = ps.length → bindArgs (PySem.W.fnOf n n params body scope .none kV doc pm an cdv ct) ⟨us, []⟩ = pure (ps.zip us)) (hps : ps.length = m)
    (walk : ∀ (cdv : Value) (A : Around) (outer : List Env) (s : Shared) (H : Hp) (E : XK), Room k (A.deeper (envOfC n scope s.heap.objs.size f cdv)) → PSs (CxD P w base Z N n scope f cdv A outer s H E) body (upSN Z (WD E) t))
    (pur : Body t N.length m F) : DfN P w base Z (k + 1) n m F := by
  refine ⟨f, fd, ps, FD.ok S (fun vs H Q E h => h.1.trans hps.symm) fun cdv A outer s H vs Q E hr h => ⟨_, walk cdv A outer s H E hr, ?_⟩, hm, FD.kp, FD.bindsN hb⟩
  obtain ⟨hl, ds, G, Qd, Ed, ok, hF, hq, hx⟩ := h
  obtain ⟨_, no, ht⟩ := pur (vals ds) Qd Ed hF
  obtain ⟨kE, eE⟩ := ok.enter (N := N)
  have owE : ∀ a, ¬ Ow (entR (vals ds) N.length) (L2.start N vs) a := fun a ⟨j, xs, e1, _⟩ => by
    unfold heldAt at e1
    rw [slAt_ent] at e1
    have e2 : heldAt (vals ds) j = some xs := e1
    rw [vals_held] at e2
    cases e2
  have ex : ∀ ρ' : List Sl, exitR (vals ds) ρ' = vals ds := fun ρ' => by
    apply List.ext_getElem?
    intro i
    unfold exitR vals
    rw [List.getElem?_mapIdx, List.getElem?_map]
    cases ds[i]? <;> rfl
  refine ⟨entR (vals ds) N.length, G, _, _, kE, ht, fun es ws p σ' ρ' H' ok' s' fr nh hp r z => ?_, fun x c dd σ' ρ' H' ok' s' p e => ?_⟩
  · have z' : Qd (.lst es) (exitR (vals ds) ρ') := z
    rw [ex ρ'] at z'
    have fr' : ∀ o, H p = some o → Tbl o := fun o ho => Classical.byContradiction fun n => owE p (fr o ho n)
    have keep : ∀ a o, H a = some o → ¬ Tbl o → H' a = some o := fun a o h n => s'.keep a o h n (owE a)
    have ne : ∀ a o, H a = some o → ¬ Tbl o → a ≠ p := fun a o h n z => n (fr' o (by rw [← z]; exact h))
    have okR : Ok Z (vs.map some) (vals ds) H' (fun a => G a ∨ a = p) := ⟨ok.len, fun i d e => by
        obtain ⟨v, h1, h2⟩ := ok.val i d e
        exact ⟨v, h1, h2.sub (vis_sub fun a o h n m => ⟨fun z => by
          rcases z with (z | z) | z
          · exact n (.inl z)
          · exact ne a o h m z
          · exact vals_ow z, keep a o h m⟩)⟩, fun i xs e => absurd (vals_held.symm.trans e) (fun z => nomatch z), fun i j xs ys a e => absurd (vals_held.symm.trans e) (fun z => nomatch z), ok'.j, fun a z => ok'.gt a z⟩
    exact hq es ws p H' okR ⟨fun a o h n _ => keep a o h n, fun _ _ _ _ n => n, fun i xs e => ⟨rfl, xs, e⟩⟩ fr' (fun z => nh (.inl z)) hp (r.sub (vis_sub fun a o h n _ => ⟨fun z => n (z.elim .inl fun z => (vals_ow z).elim), h⟩)) z'
  · have e' : Ed x (exitR (vals ds) ρ') := e
    obtain ⟨k1, k2, k3⟩ := ok.leave no ok' s'
    rw [ex ρ'] at k1 k2 e'
    exact hx x c dd H' k1 k2 p e'
end TS
set_option Elab.async false
set_option linter.all false
set_option maxRecDepth 100000
set_option maxHeartbeats 4000000
set_option exponentiation.threshold 10000
namespace TS
open PySem PySem.Spec PyProof.Rows L2
def Jx (K : PySem.W.Frag) (k : Bool) (a : Addr) : It := match k with
  | true => Itl K a
  | false => Itt K a
def iSqX (K : PySem.W.Frag) (te : TE) : TI := fun σ H R => te σ H fun v H1 => ∃ k a xs, v = .ref a ∧ SqX K H1 k a xs ∧ R (Jx K k a) H1
section
variable {X : Cx} {Z : Zx} {W : WX}
theorem pi_sqX {tg e : Expr} {te : TE} (he : PE X e te) : PI X tg e (iSqX X.K te) := ⟨fun pins s σ H R I h => thn (he.run pins s σ H _ I h) fun v s1 ⟨x, H1, I1, r1, k, a, xs, ex, hq, q⟩ => by
  subst ex
  cases r1
  have fin : ∀ b, b ∈ [s1.heap.objs.size] → FpOk X pins H1 b := fun b hb => by
    rw [List.mem_singleton.mp hb]
    exact I1.fpOk (Nat.le_refl _) (I1.hok.fresh (Nat.le_refl _))
  cases k with
  | true =>
    obtain ⟨its, rv, p, hz⟩ := I1.list hq
    exact wpAny_pyIter_list p.isList ⟨_, _, _, Itl X.K a, H1, rfl, I1.kept (t' := s1.toks) fun b o e => Heap.get?_push_of_some _ e, turn_list a _, ⟨_, Heap.get?_push_size _ rfl, rfl, rfl⟩, fin, q⟩
  | false =>
    obtain ⟨its, rv, p, hz⟩ := I1.tuple hq
    have p' : s1.heap.IsTuple a its.toArray := p
    exact wpAny_pyIter_tuple p' ⟨_, _, _, Itt X.K a, H1, rfl, I1.kept (t' := s1.toks) fun b o e => Heap.get?_push_of_some _ e, turn_tuple a _, ⟨_, Heap.get?_push_size _ rfl, rfl, rfl⟩, fin, q⟩⟩
/-- a list or a tuple is walked -/
def iSq (t : DE) : DI := fun ρ Q E => t ρ (fun d ρ' => ∃ xs, seqD d = some xs ∧ Q xs ρ') E
theorem it_sqL {A : Hp} {a : Addr} {vs : List V} {ds : List D} (h : SqL Z.K A a vs) (r : RpL Z A ds vs) : ItOk Z A (Itl Z.K a) ds := fun i H S sub _ => by
  have q : SqL Z.K H a vs := vis_sqL (sub.sqL h)
  refine ⟨fun hi => ?_, fun hi => ⟨vs, q, by rw [hi, r.len]; exact Nat.le_refl _⟩⟩
  obtain ⟨v, h1, h2⟩ := r.get (List.getElem?_eq_getElem hi)
  refine ⟨⟨vs, v, q, h1⟩, fun x H2 y => ?_⟩
  obtain ⟨e, y⟩ := y
  subst e
  have e2 := y vs q
  rw [h1] at e2
  cases e2
  exact ⟨.refl _, _, List.getElem?_eq_getElem hi, h2.sub sub⟩
theorem di_seq [F : Fit X Z] {tg e : Expr} {t : DE} (he : PE X e (upE Z W t)) : PI X tg e (upI Z W (iSq t)) := PI.wk (pi_sqX he) fun σ H R ⟨ρ, G, Qd, E, ok, h, hq, hx⟩ => by
  refine ⟨ρ, G, _, E, ok, h, fun d v ρ1 H1 ok1 s1 r1 h1 => ?_, hx⟩
  obtain ⟨xs, es, q⟩ := h1
  obtain ⟨k, a, ws, rfl, sq, rr⟩ := r1.seq es
  rw [F.K]
  refine ⟨k, a, ws, rfl, sq.vis, ?_⟩
  cases k with
  | true => exact hq _ ρ1 H1 _ ok1 s1 (it_sqL sq rr) q
  | false => exact hq _ ρ1 H1 _ ok1 s1 (it_tup sq rr) q
theorem takes0X : L2N.Takes X W0 := fun _ _ x => by
  obtain ⟨_, _, _, _, _, _, _, _, _, _, _, _, _, _, _, _, z⟩ := x
  exact z.elim
end
end TS
set_option Elab.async false
set_option linter.all false
set_option maxRecDepth 100000
set_option maxHeartbeats 4000000
set_option exponentiation.threshold 10000
namespace TS
open PySem PySem.Spec PyProof.Rows L2 LamX
/-! ### the error's labels, bundled -/
structure ErrZ (P : Program) (w : World) (base : Heap) (Z : Zx) (x : Str) (nm : Str → Option Str) (kz : Nat) : Prop where
  ex : ∃ (g CS fz : Addr) (fd fdz : FuncData) (psz : List Str) (nmA : Addr → Option Str) (pg : Arguments) (sg : Scope) (Ng : List Str) (a e C nmf : Str) (j1 : Nat) (q1 q2 q3 q4 q5 q6 q7 q8 q9 q10 q11 q12 : Pos),
    FunD Z.K x x pg [.Try [.Expr (.Call (.Name a q1) [] [] q2) q3] [.ExceptHandler (some (.Name C q4)) (some e) [.Return (some (.Call (.Name nmf q5) [.Name e q6] [] q7)) q8] q9] [] [] q10, .Return (some (.Constant (.str "") j1 q11)) q12] sg [] [] g fd ∧
    Z.mg x = some (.ref g) ∧ L2.Binds Z.K fd [a] [] ∧ FnScope Ng [a] sg ∧ Ng[0]? = some a ∧ Vis sg a ∧ Ng[1]? = some e ∧ sg.names.lookup e = some .local ∧ sg.names.lookup C = some .globalImplicit ∧ Z.mg C = some (.ref CS) ∧ sg.names.lookup nmf = some .globalImplicit ∧
    Z.mg nmf = some (.ref fz) ∧ PySem.W.keepIn Z.K (.ref fz) = true ∧ L2.Binds Z.K fdz psz [] ∧ (∀ D r, nmA D = some r → FnZ P w Z.K Z.mg base kz fz fdz psz D r) ∧
    (∀ n r D, nm n = some r → Z.mg n = some (.ref D) → PySem.W.exmOne Z.K (.ref D) (.ref CS) = some true ∧ nmA D = some r) ∧
    (a == ("__debug__" : Str)) = false ∧ (a == ("__classdict__" : Str)) = false ∧ (C == ("__debug__" : Str)) = false ∧ (nmf == ("__debug__" : Str)) = false ∧ (e == ("__debug__" : Str)) = false ∧ (e == ("__classdict__" : Str)) = false ∧ ∀ f : Addr, (L2.start Ng [V.ref f])[0]? = some (some (V.ref f))
/-- a def's table of code objects -/
structure TabZ (base : Heap) (Z : Zx) (T : List (Addr × Str)) (q : Str) (c Pt : Addr) : Prop where
  j : ∀ H, Z.J H ↔ Tabs T H
  tb : TabB base Z.mg c Pt
  mem : (Pt, q) ∈ T
  uni : ∀ p ∈ T, p.1 = Pt → p.2 = q
section
variable {X : Cx} {Z : Zx} {W : WX}
instance fit_lam {A : Around} {o : List Env} {s : Shared} {H : Hp} {E : XK} {sc : Scope} {f c' : Addr} [F : Fit X Z] : Fit (lamN X A o s H E sc f c') Z := ⟨F.K, F.mg⟩
theorem de_err [GoodJ Z] [F : Fit X Z] {x : Str} {nm : Str → Option Str} {k kz : Nat} {T : List (Addr × Str)} {q : Str} {c Pt : Addr} {params : Arguments} {body : Expr} {scope : Scope} {td : DE} {p lpos pos : Pos} (er : ErrZ X.prog X.w X.base Z x nm kz) (tz : TabZ X.base Z T q c Pt) (hcode : X.env.code = .ref c) (hr : Room (k + 2) X.A) (hkk : kz ≤ k + 1)
    (hbody : ∀ (A : Around) (outer : List Env) (s : Shared) (H : Hp) (E : XK) (f c' : Addr), Room k (A.deeper (lamEnv X scope s.heap.objs.size f c')) → PE (lamN X A outer s H E scope f c') body (upE Z (WD E) td))
    (hg : Gl X x := by rfl) (hq : X.env.qual ++ "<lambda>" = q := by rfl) (L : LamS X.env.scope scope := by exact lamS_by (by rfl)) (hdef : defaultsOf params X.env = ([], []) := by rfl)
    (hbind : ∀ (q : Str) (cl : List (Str × Addr)) (pm cv ctv : Value), bindArgs (PySem.W.kla_fn "<lambda>" q params body scope cl pm cv ctv) ⟨[], []⟩ = pure [] := by intros; rfl) (hdb : (x == ("__debug__" : Str)) = false := by decide) :
    PE X (.Call (.Name x p) [.Lambda params body scope lpos] [] pos) (upE Z W (dErr nm td)) := by
  obtain ⟨g, CS, fz, fd, fdz, psz, nmA, pg, sg, Ng, a, e, C, nmf, j1, q1, q2, q3, q4, q5, q6, q7, q8, q9, q10, q11, q12, FD, h1, h2, h3, h4, h5, h6, h7, h8, h9, h10, h11, h12, h13, h14, h15, h16, h17, h18, h19, h20, h21, h22⟩ := er.ex
  have hK := F.K
  have hM := F.mg
  have e1 := up_err (W := W) (td := td) (K := Z.K) (nmA := nmA) (T := T) (fun H => (tz.j H).mp) (fun H => (tz.j H).mpr) h15
  rw [← hK] at FD h2 h12 h13 e1
  simp only [← hK, ← hM] at h14
  have tb := tz.tb
  rw [← hM] at h1 h9 h11 tb
  exact PE.wk (pe_err FD hg h1 h2 h3 h4 h5 h6 h7 h8 h9 h10 h11 h12 h13 h14 tb hcode (by rw [hq]; exact tz.mem) (fun p hp z => by rw [hq]; exact tz.uni p hp z) hr hkk L hdef hbind hbody hdb h16 h17 h18 h19 h20 h21 h22) e1
end
/-! ### a def's law, with its code object -/
theorem Df.ofC {P : Program} {w : World} {base : Heap} {Z : Zx} {N ps : List Str} {scope : Scope} {body : List Stmt} {params : Arguments} {f : Addr} {fd : FuncData} {n : Str} {k m : Nat} {F : FS} {t : DS} (FD : FunD Z.K n n params body scope [] [] f fd) (S : FnScope N ps scope)
    (hps : ps.length = m)
    (walk : ∀ (cdv : Value) (A : Around) (outer : List Env) (s : Shared) (H : Hp) (E : XK), fd.code = cdv → PySem.W.codeIn Z.K cdv n = true → Room k (A.deeper (envOfC n scope s.heap.objs.size f cdv)) → PSs (CxD P w base Z N n scope f cdv A outer s H E) body (upS Z (WD E) t))
    (pur : Body t N.length m F) : FnOk P w Z.K Z.mg base (L2N.CX P w) (k + 1) f fd ps (upF Z m F) := by
  obtain ⟨oc, od, dV, kV, doc, pm, an, cdv, ct, osl, rfl, lk, hcd, _, _⟩ := FD.ex
  refine fn_of lk hcd S (fun vs H Q E h => h.1.trans hps.symm) fun A outer s H vs Q E hr h => ⟨_, walk cdv A outer s H E rfl hcd hr, ?_⟩
  obtain ⟨hl, as, G, Qd, Ed, ok, hF, hq, hx⟩ := h
  obtain ⟨_, no, ht⟩ := pur as Qd Ed hF
  obtain ⟨kE, eE⟩ := ok.enter (N := N)
  refine ⟨entR as N.length, G, _, _, kE, ht, fun σ' ρ' H' ok' s' => ?_, fun x c dd σ' ρ' H' ok' s' p e => ?_⟩
  · obtain ⟨k1, k2, k3⟩ := ok.leave no ok' s'
    refine ⟨fun z => hq .non .non _ H' k1 k2 rfl z, fun z => z.elim, fun z => z.elim, fun d v r z => hq d v _ H' k1 k2 (r.sub k3) z⟩
  · obtain ⟨k1, k2, k3⟩ := ok.leave no ok' s'
    exact hx x c dd _ H' k1 k2 p e
theorem hu64 {k : Nat} {A : Around} (hr : Room k A) : A.units + 64 < cLine := by have := hr.un; omega
theorem hu65 {k : Nat} {A : Around} (hr : Room k A) : A.units + 65 < cLine := by have := hr.un; omega
end TS
set_option Elab.async false
set_option linter.all false
set_option maxRecDepth 100000
set_option maxHeartbeats 4000000
set_option exponentiation.threshold 10000
namespace TS
open PySem PySem.Spec PyProof.Rows L2
/-! x, y = [..], e and x, y = e, [..], the list one's own -/
def sParN (i j : Nat) (t : DA) (u : DE) : DS := fun B E ρ => t ρ (fun ds ρ1 => u ρ1 (fun d ρ2 => (nb (slAt ρ2 i) ∧ i < ρ2.length ∧ nb (slAt (ρ2.set i (.own ds)) j)) ∧ B.nx ((ρ2.set i (.own ds)).set j (.val d))) E) E
def sParV (i j : Nat) (u : DE) (t : DA) : DS := fun B E ρ => u ρ (fun d ρ1 => t ρ1 (fun ds ρ2 => (nb (slAt ρ2 i) ∧ j < ρ2.length ∧ nb (slAt (ρ2.set i (.val d)) j)) ∧ B.nx ((ρ2.set i (.val d)).set j (.own ds))) E) E
section
variable {X : Cx} {Z : Zx} {W : WX} {σ : L2.St} {ρ : Rho} {H : Hp} {G : Addr → Prop}
theorem XPE.ghost {E : EQ} {p : Addr} (x : XPE Z W σ ρ H G E) : XPE Z W σ ρ H (fun a => G a ∨ a = p) E := fun y c dd ρ' H' o s q e => x y c dd ρ' H' (o.shown (vs := [])).1 s q e
theorem ds_parN {i j : Nat} {x y : Str} {a b : Expr} {t : DA} {u : DE} {px py pt : Pos} {kt k2 : Nat} {pt2 pos : Pos} (hc : X.calm = true) (hN : X.N.Nodup) (ha : PE X a (upN Z W t)) (hb : PE X b (upE Z W u)) (hij : i ≠ j := by decide) (hi : X.N[i]? = some x := by rfl) (hj : X.N[j]? = some y := by rfl)
    (hx : X.env.scope.names.lookup x = some .local := by rfl) (hy : X.env.scope.names.lookup y = some .local := by rfl) (s1 : starEach [a, b] X.env = (false, eval a X.env) :: starEach [b] X.env := by rfl) (s2 : starEach [b] X.env = (false, eval b X.env) :: starEach [] X.env := by rfl)
    (hw : swappedStores [.Tuple [.Name x px, .Name y py] kt pt] (.Tuple [a, b] k2 pt2) X.env = pure (some [x, y]) := by rfl) (hs : swapsWithSole [.Tuple [.Name x px, .Name y py] kt pt] (.Tuple [a, b] k2 pt2) pos.line X.env = pure false := by rfl) :
    PS X (.Assign [.Tuple [.Name x px, .Name y py] kt pt] (.Tuple [a, b] k2 pt2) pos) (upS Z W (sParN i j t u)) := PS.wk (ps_par hc hN hi hj hij hx hy (pa_cons ha (pa_cons hb pa_nil s2) s1) hw hs) fun B σ H ⟨ρ, G, DD, E, ok, h, hq, hx⟩ => by
  refine ⟨ρ, G, _, E, ok, h, fun ds vs p ρ1 H1 ok1 st1 fr nh hp r1 h1 => ?_, hx.e⟩
  refine ⟨ρ1, _, _, E, ok1, h1, fun d v ρ2 H2 ok2 st2 r2 h2 => ?_, (hx.e.step st1).ghost⟩
  obtain ⟨⟨n1, n2, n3⟩, h3⟩ := h2
  have np : ¬ Ow ρ1 σ p := fun z => nh (.inr z)
  have hp2 := st2.keep p _ hp (fun z => z) np
  have nh2 : ¬ Hid ρ2 σ G p := fun z => z.elim (fun z => nh (.inl z)) (st2.out p _ hp (fun z => z) np)
  obtain ⟨k1, k2⟩ := ok2.take (st1.trans st2) fr nh2 hp2 (r1.sub st2.vis) n1 n2
  obtain ⟨k3, k4⟩ := k1.set (r2.sub (take_sub n2 ok2.len)) n3
  exact ⟨_, _, rfl, (hq _ _ H2 k3 (k2.trans k4)).1 h3⟩
theorem ds_parV {i j : Nat} {x y : Str} {a b : Expr} {t : DA} {u : DE} {px py pt : Pos} {kt k2 : Nat} {pt2 pos : Pos} (hc : X.calm = true) (hN : X.N.Nodup) (ha : PE X a (upE Z W u)) (hb : PE X b (upN Z W t)) (hij : i ≠ j := by decide) (hi : X.N[i]? = some x := by rfl) (hj : X.N[j]? = some y := by rfl)
    (hx : X.env.scope.names.lookup x = some .local := by rfl) (hy : X.env.scope.names.lookup y = some .local := by rfl) (s1 : starEach [a, b] X.env = (false, eval a X.env) :: starEach [b] X.env := by rfl) (s2 : starEach [b] X.env = (false, eval b X.env) :: starEach [] X.env := by rfl)
    (hw : swappedStores [.Tuple [.Name x px, .Name y py] kt pt] (.Tuple [a, b] k2 pt2) X.env = pure (some [x, y]) := by rfl) (hs : swapsWithSole [.Tuple [.Name x px, .Name y py] kt pt] (.Tuple [a, b] k2 pt2) pos.line X.env = pure false := by rfl) :
    PS X (.Assign [.Tuple [.Name x px, .Name y py] kt pt] (.Tuple [a, b] k2 pt2) pos) (upS Z W (sParV i j u t)) := PS.wk (ps_par hc hN hi hj hij hx hy (pa_cons ha (pa_cons hb pa_nil s2) s1) hw hs) fun B σ H ⟨ρ, G, DD, E, ok, h, hq, hx⟩ => by
  refine ⟨ρ, G, _, E, ok, h, fun d v ρ1 H1 ok1 st1 r1 h1 => ?_, hx.e⟩
  refine ⟨ρ1, G, _, E, ok1, h1, fun ds vs p ρ2 H2 ok2 st2 fr nh hp r2 h2 => ?_, hx.e.step st1⟩
  obtain ⟨⟨n1, n2, n3⟩, h3⟩ := h2
  have fr1 : Frs σ ρ H p := st1.frs2 fr
  have rd : Rp Z (vis H2 (Hid ρ2 σ fun a => G a ∨ a = p)) d v := r1.sub (vis_sub fun a o h n m => by
    have na : ¬ Ow ρ1 σ a := fun z => n (.inr z)
    refine ⟨fun z => ?_, st2.keep a o h m na⟩
    rcases z with (z | z) | z
    · exact n (.inl z)
    · rw [z] at h na
      exact na (fr o h m)
    · exact st2.out a o h m na z)
  obtain ⟨k1, k2⟩ := ok2.set rd n1
  have np : ¬ Ow ρ2 σ p := fun z => nh (.inr z)
  have sm := (k2.out p _ hp (fun z => z) np)
  obtain ⟨k3, k4⟩ := k1.take ((st1.trans st2).trans k2) fr1 (fun z => z.elim (fun z => nh (.inl z)) sm) hp (r2.sub k2.vis) n3 (by rw [List.length_set]; exact n2)
  exact ⟨_, _, rfl, (hq _ _ H2 k3 k4).1 h3⟩
end
end TS
set_option Elab.async false
set_option linter.all false
set_option maxRecDepth 100000
set_option maxHeartbeats 4000000
set_option exponentiation.threshold 10000
/-! what the head's run asks of the exception classes -/
namespace TS
open PySem PySem.Spec PyProof.Rows L2
/-- an exception class: how its instances' attributes are found -/
def excB (K : PySem.W.Frag) (D : Addr) : Bool := He.eqO (PySem.W.findIn K (.ref D) "__getattribute__") (some (some (.builtin "BaseException.__getattribute__"))) && (He.eqO (PySem.W.findIn K (.ref D) "__getattr__") (some none) &&
  (decide (PySem.W.subIn K (.ref D) (.type "BaseException") = some true) && (PySem.W.hasDictIn K D && (He.eqO (PySem.W.findIn K (.ref D) "__class__") (some (some (.builtin "object.__class__"))) &&
  (He.eqO (PySem.W.specialIn K (.builtin "object.__class__") "__get__") (some (some (.builtin "getset_descriptor.__get__"))) && (decide (PySem.W.takesIn K (.builtin "object.__class__") = some true) && decide (PySem.W.mroIn K D (.type "object") = some true)))))))
theorem excB_ok {K : PySem.W.Frag} {D : Addr} (h : excB K D = true) : ExcC K D := by
  obtain ⟨h1, h⟩ := He.ba h
  obtain ⟨h2, h⟩ := He.ba h
  obtain ⟨h3, h⟩ := He.ba h
  obtain ⟨h4, h⟩ := He.ba h
  obtain ⟨h5, h⟩ := He.ba h
  obtain ⟨h6, h⟩ := He.ba h
  obtain ⟨h7, h8⟩ := He.ba h
  exact ⟨He.eqO_ok h1, He.eqO_ok h2, of_decide_eq_true h3, h4, He.eqO_ok h5, He.eqO_ok h6, of_decide_eq_true h7, of_decide_eq_true h8⟩
/-- the classes that are told -/
def XN : List Str := ["InvalidHouse", "InvalidPerson", "InvalidRow", "InvalidTurning", "InvalidWay", "InvalidWays", "InvalidWeights", "InvalidKind", "InvalidSightings", "InvalidAsks", "InvalidMenu", "InvalidSpread", "InvalidNumber", "NothingToUndo", "InvalidText", "TooMany"]
def labB (K : PySem.W.Frag) : Bool := XN.all fun n => excB K (He.ga K n) && (decide (PySem.W.kitOne K (.ref (He.ga K n)) (.type "ValueError") = some true) && (decide (PySem.W.exmOne K (.ref (He.ga K n)) (.ref (He.ga K "ShareError")) = some true) &&
  XN.all fun m => decide (PySem.W.kitOne K (.ref (He.ga K n)) (.ref (He.ga K m)) = some (n == m))))
structure LabF (K : PySem.W.Frag) (n : Str) : Prop where
  exc : ExcC K (He.ga K n)
  val : PySem.W.kitOne K (.ref (He.ga K n)) (.type "ValueError") = some true
  exm : PySem.W.exmOne K (.ref (He.ga K n)) (.ref (He.ga K "ShareError")) = some true
  kit : ∀ m ∈ XN, PySem.W.kitOne K (.ref (He.ga K n)) (.ref (He.ga K m)) = some (n == m)
theorem labB_ok {K : PySem.W.Frag} (h : labB K = true) {n : Str} (hn : n ∈ XN) : LabF K n := by
  obtain ⟨h1, h⟩ := He.ba (List.all_eq_true.mp h n hn)
  obtain ⟨h2, h⟩ := He.ba h
  obtain ⟨h3, h⟩ := He.ba h
  exact ⟨excB_ok h1, of_decide_eq_true h2, of_decide_eq_true h3, fun m hm => of_decide_eq_true (List.all_eq_true.mp h m hm)⟩
def flags (n : Str) : List Bool := XN.map fun m => n == m
def labS : Str := "house person row turning way ways weights kind sightings asks menu spread number undo text many value"
def labelOf (n : Str) : Option Str := if n ∈ XN then some (Txt.join " " (pick (Txt.split labS " ") (flags n ++ [true]))) else none
theorem bit_person : labelOf "InvalidPerson" = some "person value" := by decide +kernel
theorem bit_row : labelOf "InvalidRow" = some "row value" := by decide +kernel
theorem bit_house : labelOf "InvalidHouse" = some "house value" := by decide +kernel
theorem bit_way : labelOf "InvalidWay" = some "way value" := by decide +kernel
theorem bit_ways : labelOf "InvalidWays" = some "ways value" := by decide +kernel
theorem bit_weights : labelOf "InvalidWeights" = some "weights value" := by decide +kernel
theorem bit_kind : labelOf "InvalidKind" = some "kind value" := by decide +kernel
theorem bit_sightings : labelOf "InvalidSightings" = some "sightings value" := by decide +kernel
theorem bit_asks : labelOf "InvalidAsks" = some "asks value" := by decide +kernel
theorem bit_menu : labelOf "InvalidMenu" = some "menu value" := by decide +kernel
theorem lab_sum : ∀ n ∈ XN, ((pick (Txt.split labS " ") (flags n ++ [true])).map (·.length)).sum + (pick (Txt.split labS " ") (flags n ++ [true])).length * Str.length " " ≤ 16777216 := by decide +kernel
/-! ### the walk of the labels, plainly -/
section
variable {a p : Addr} {σ : L2.St} {H : Hp} {B : Ends} {rest : L2.TS}
theorem sl1000 {n : Nat} (h : n ≤ 1000) : n ≤ sizeLine := Nat.le_trans h (by rw [sizeLine_eq]; decide)
theorem nm_one {bs : List Bool} (h0 : σ[0]? = some (some (.ref a))) (hl : bs.length ≤ 1000) (k : ∀ p' H', Same H H' → H' p' = some (.lst (bs.map V.bl)) → rest B (σ.set 1 (some (.ref p'))) H') :
    tSeq (tAsg (tLst (tIss a bs)) (gName 1)) rest B σ H :=
  ⟨h0, by rw [List.length_map]; exact sl1000 hl, fun p2 n2 => k p2 _ (same_upd n2) upd_same⟩
theorem nm_more {acc bs : List Bool} (h0 : σ[0]? = some (some (.ref a))) (h1 : σ[1]? = some (some (.ref p))) (hp : H p = some (.lst (acc.map V.bl))) (hl : acc.length + bs.length ≤ 1000)
    (k : ∀ p' H', Same H H' → H' p' = some (.lst ((acc ++ bs).map V.bl)) → rest B (σ.set 1 (some (.ref p'))) H') : tSeq (tAsg (tOp rCat (tVar 1) (tLst (tIss a bs))) (gName 1)) rest B σ H := by
  refine ⟨_, h1, h0, by rw [List.length_map]; exact sl1000 (by omega), fun p2 n2 => ?_⟩
  have e : upd H p2 (.lst (bs.map V.bl)) p = some (.lst (acc.map V.bl)) := by
    rw [upd_ne (ne_of_none hp n2)]
    exact hp
  refine ⟨p, p2, _, _, rfl, rfl, e, upd_same, by rw [List.length_map, List.length_map]; exact sl1000 hl, fun p3 n3 => ?_⟩
  exact k p3 _ (fun b u z => same_upd n3 b u (same_upd n2 b u z)) (by rw [upd_same, List.map_append])
theorem nm_lab {x : Str} (k : rest B (σ.set 2 (some (.str x))) H) : tSeq (tAsg (tC (.str x)) (gName 2)) rest B σ H := k
theorem nm_lab2 {x y : Str} (h2 : σ[2]? = some (some (.str x))) (hl : x.length + y.length ≤ 1000) (k : rest B (σ.set 2 (some (.str (x ++ y)))) H) :
    tSeq (tAsg (tOp (fun x y H Q => ∃ i j, x = V.str i ∧ y = V.str j ∧ i.length + j.length ≤ sizeLine ∧ Q (V.str (i ++ j)) H) (tVar 2) (tC (.str y))) (gName 2)) rest B σ H :=
  ⟨_, h2, x, y, rfl, rfl, sl1000 hl, k⟩
theorem nm_end {K K' : PySem.W.Frag} {acc : List Bool} {x r : Str} {Q : V → Hp → Prop} (h1 : σ[1]? = some (some (.ref p))) (hp : H p = some (.lst (acc.map V.bl))) (h2 : σ[2]? = some (some (.str x)))
    (hx : x.length ≤ 900) (hn : (Txt.split x " ").length = acc.length) (hs : ((pick (Txt.split x " ") acc).map (·.length)).sum + (pick (Txt.split x " ") acc).length * Str.length " " ≤ 16777216) (hr : Txt.join " " (pick (Txt.split x " ") acc) = r) (hq : ∀ H', Same H H' → Q (.str r) H') :
    tM1 (fun x xs H Q => ∃ a p, ∃ ys : List Str, x = .str a ∧ xs = [.ref p] ∧ (SqL K H p (ys.map V.str) ∨ SqT K H p (ys.map V.str)) ∧ (ys.map (·.length)).sum + ys.length * a.length ≤ 16777216 ∧ Q (.str (Txt.join a ys)) H) (tC (.str " "))
      (tNm K' (tCons (tM1 (fun x xs H Q => ∃ a b, x = .str a ∧ xs = [.str b] ∧ (b.length == 0) = false ∧ a.length + 2 ≤ sizeLine ∧ rNewStrs (Txt.split a b) H Q) (tVar 2) (tC (.str " "))) (tCons (tVar 1) tNil))) σ H Q := by
  refine ⟨⟨_, rfl⟩, ?_⟩
  refine ⟨_, h2, ⟨_, rfl⟩, _, _, rfl, rfl, by decide +kernel, sl1000 (by omega), fun p2 n2 => ?_⟩
  refine ⟨_, h1, ?_⟩
  have e : upd H p2 (.lst ((Txt.split x " ").map V.str)) p = some (.lst (acc.map V.bl)) := by
    rw [upd_ne (ne_of_none hp n2)]
    exact hp
  refine ⟨p2, p, _, acc, rfl, .of upd_same, .of e, hn, fun D nD => ?_⟩
  refine ⟨" ", D, _, rfl, rfl, .inl (.of upd_same), hs, ?_⟩
  rw [hr]
  exact hq _ fun b u z => same_upd nD b u (same_upd n2 b u z)
end
end TS
set_option Elab.async false
set_option linter.all false
set_option maxRecDepth 100000
set_option maxHeartbeats 4000000
set_option exponentiation.threshold 10000
/-! what the end of a law's proof needs -/
namespace TS
open PySem PySem.Spec PyProof.Rows L2 LamX
theorem goodJ_tabs {K : PySem.W.Frag} {mg : Str → Option Value} {T : List (Addr × Str)} : GoodJ ⟨K, mg, Tabs T⟩ := ⟨fun H H' k t p hp => by
  obtain ⟨ps, h1, h2⟩ := t p hp
  exact ⟨ps, k _ _ h1 (fun z => z), h2.1, fun pos cv e => by
    obtain ⟨c, h3, h4⟩ := h2.2 pos cv e
    exact ⟨c, h3, k _ _ h4 (fun z => z)⟩⟩⟩
/-- a tuple of the module -/
def tupObj (K : PySem.W.Frag) (x : Str) : Bool := match K.lookup (He.ga K x) with
  | some o => decide (o.cls = .type "tuple") && o.dict.isNone
  | none => false
theorem tupObj_ok {K : PySem.W.Frag} {x : Str} (h : tupObj K x = true) : ∃ o, K.lookup (He.ga K x) = some o ∧ o.cls = .type "tuple" ∧ o.dict = none := by
  unfold tupObj at h
  cases q : K.lookup (He.ga K x) with
  | none => rw [q] at h; cases h
  | some o =>
    rw [q] at h
    obtain ⟨h1, h2⟩ := He.ba h
    exact ⟨o, rfl, of_decide_eq_true h1, Option.isNone_iff_eq_none.mp h2⟩
def tupS (K : PySem.W.Frag) (x : Str) (ns : List Str) : Bool := tupObj K x && He.tupB K x (ns.map He.Dv.str)
theorem tupS_sq {K : PySem.W.Frag} {x : Str} {ns : List Str} (h : tupS K x ns = true) (H : Hp) : SqT K H (He.ga K x) (ns.map V.str) := by
  have z := He.tupB_ok (He.ba h).2 H
  rw [List.map_map] at z
  exact z
theorem rp_strs {Z : Zx} {H : Hp} : ∀ ns : List Str, RpL Z H (ns.map D.str) (ns.map V.str)
  | [] => trivial
  | n :: ns => ⟨rfl, rp_strs ns⟩
theorem tupS_rp {Z : Zx} {x : Str} {ns : List Str} (h : tupS Z.K x ns = true) (H : Hp) : Rp Z H (.tup (ns.map D.str)) (.ref (He.ga Z.K x)) := ⟨_, _, rfl, tupS_sq h H, rp_strs ns⟩
theorem excF_of {Z : Zx} {n : Str} (hm : Z.mg n = some (.ref (He.ga Z.K n))) (c : (He.Fa.exc n).ok Z.K = true) : ExcF Z n := by
  obtain ⟨h1, h2, h3, h4⟩ := He.exc_ok c
  exact ⟨_, hm, h1, h2, h3, h4⟩
theorem codeOf_fd {K : PySem.W.Frag} {p : Str × Option Str} {n q : Str} {params : Arguments} {body : List Stmt} {scope : Scope} {dvs : List V} {kws : List (Str × V)} {fd : FuncData} (FD : FunD K n q params body scope dvs kws (He.fAd K p) fd) : fd.code = .ref (He.codeOf K p) := by
  obtain ⟨oc, od, dV, kV, doc, pm, an, cdv, ct, osl, rfl, lk, hcd, _, _⟩ := FD.ex
  obtain ⟨c, hc⟩ := He.codeIn_ref hcd
  rw [He.codeOf_eq lk hc]
  exact hc
/-! ### the labels by address -/
def nmA (K : PySem.W.Frag) (D : Addr) : Option Str := (XN.find? fun n => He.ga K n == D).bind labelOf
theorem label_mem {n r : Str} (h : labelOf n = some r) : n ∈ XN := by
  unfold labelOf at h
  by_cases q : n ∈ XN
  · exact q
  · rw [if_neg q] at h
    cases h
theorem nmA_at {K : PySem.W.Frag} (h : labB K = true) {n r : Str} (hl : labelOf n = some r) : nmA K (He.ga K n) = some r := by
  have hn := label_mem hl
  unfold nmA
  cases q : XN.find? fun m => He.ga K m == He.ga K n with
  | none =>
    have z := List.find?_eq_none.mp q n hn
    simp at z
  | some m =>
    have hm := List.mem_of_find?_eq_some q
    have e : He.ga K m = He.ga K n := by simpa using List.find?_some q
    have k1 := (labB_ok h hn).kit n hn
    have k2 := (labB_ok h hn).kit m hm
    rw [e, k1] at k2
    have k3 : (n == n) = (n == m) := Option.some.inj k2
    have k4 : n = m := by simpa using k3.symm
    show labelOf m = some r
    rw [← k4]
    exact hl
theorem nmA_inv {K : PySem.W.Frag} {D : Addr} {r : Str} (h : nmA K D = some r) : ∃ n, n ∈ XN ∧ D = He.ga K n ∧ labelOf n = some r := by
  unfold nmA at h
  cases q : XN.find? fun m => He.ga K m == D with
  | none => rw [q] at h; cases h
  | some m =>
    rw [q] at h
    have e : He.ga K m = D := by simpa using List.find?_some q
    exact ⟨m, List.mem_of_find?_eq_some q, e.symm, h⟩
/-- tables that differ -/
def apartB (K : PySem.W.Frag) (tf : List He.Defn) : Bool := tf.all fun p => tf.all fun q => decide ((He.cT K p).2 = (He.cT K q).2 → p = q)
theorem apartB_ok {K : PySem.W.Frag} {tf : List He.Defn} (h : apartB K tf = true) {p q : He.Defn} (hp : p ∈ tf) (hq : q ∈ tf) (e : (He.cT K p).2 = (He.cT K q).2) : p = q :=
  of_decide_eq_true (List.all_eq_true.mp (List.all_eq_true.mp h p hp) q hq) e
def lamQ (p : He.Defn) : Str := p.1 ++ ".<locals>.<lambda>"
def tabT (K : PySem.W.Frag) (tf : List He.Defn) : List (Addr × Str) := tf.map fun p => ((He.cT K p).2, lamQ p)
theorem tabZ_of {base : Heap} {K : PySem.W.Frag} {mg : Str → Option Value} {tf : List He.Defn} {p : He.Defn} {q : Str} (hp : p ∈ tf) (hq : lamQ p = q) (ap : apartB K tf = true) (tb : TabB base mg (He.cT K p).1 (He.cT K p).2) :
    TabZ base ⟨K, mg, Tabs (tabT K tf)⟩ (tabT K tf) q (He.codeOf K p) (He.cT K p).2 :=
  ⟨fun _ => Iff.rfl, tb, by rw [← hq]; exact List.mem_map.mpr ⟨p, hp, rfl⟩, fun x hx e => by
    obtain ⟨p', hp', rfl⟩ := List.mem_map.mp hx
    have z := apartB_ok ap hp' hp e
    rw [z]
    exact hq⟩
end TS
set_option Elab.async false
set_option linter.all false
set_option maxRecDepth 100000
set_option maxHeartbeats 4000000
set_option exponentiation.threshold 10000
/-! readings in plain data, told by simp -/
namespace TS
open PySem PySem.Spec PyProof.Rows L2
section
variable {ρ : Rho} {Q : D → Rho → Prop} {Qb : Bool → Rho → Prop} {Ql : List D → Rho → Prop} {Qr : Rho → Prop} {E : EQ} {B : DEnds}
@[simp] theorem slAt_z {s : Sl} {ρ : Rho} : slAt (s :: ρ) 0 = s := (rfl)
@[simp] theorem slAt_s {s : Sl} {ρ : Rho} {n : Nat} : slAt (s :: ρ) (n + 1) = slAt ρ n := (rfl)
theorem dVar_s {i : Nat} : dVar i ρ Q E = (match slAt ρ i with | .val d => Q d ρ | .own ds => Q (.lst ds) (ρ.set i .no) | _ => False) := rfl
@[simp] theorem dVar_v {d : D} : dVar 0 (.val d :: ρ) Q E = Q d (.val d :: ρ) := (rfl)
@[simp] theorem dVar_o {ds : List D} : dVar 0 (.own ds :: ρ) Q E = Q (.lst ds) (.no :: ρ) := (rfl)
@[simp] theorem dVar_n {i : Nat} {x : Sl} : dVar (i + 1) (x :: ρ) Q E = dVar i ρ (fun d ρ' => Q d (x :: ρ')) E := by
  unfold dVar
  rw [slAt_s]
  cases slAt ρ i <;> rfl
@[simp] theorem held_z {x : Sl} : heldAt (x :: ρ) 0 = x.held := (rfl)
@[simp] theorem held_s {x : Sl} {i : Nat} : heldAt (x :: ρ) (i + 1) = heldAt ρ i := (rfl)
@[simp] theorem hd_v {d : D} : (Sl.val d).held = none := (rfl)
@[simp] theorem hd_n : Sl.no.held = none := (rfl)
@[simp] theorem hd_o {ds : List D} : (Sl.own ds).held = some ds := (rfl)
@[simp] theorem hd_b {ds : List D} : (Sl.brw ds).held = some ds := (rfl)
@[simp] theorem dC_s {d : D} : dC d ρ Q E = Q d ρ := (rfl)
@[simp] theorem aNil_s : aNil ρ Ql E = Ql [] ρ := (rfl)
@[simp] theorem aCons_s {t : DE} {u : DA} : aCons t u ρ Ql E = t ρ (fun d ρ1 => u ρ1 (fun ds ρ2 => Ql (d :: ds) ρ2) E) E := (rfl)
@[simp] theorem dTupL_s {t : DA} : dTupL t ρ Q E = t ρ (fun ds ρ' => ds.length ≤ LIM ∧ Q (.tup ds) ρ') E := (rfl)
@[simp] theorem dOfN_s {t : DA} : dOfN t ρ Q E = t ρ (fun ds ρ' => Q (.lst ds) ρ') E := (rfl)
@[simp] theorem nLst_s {t : DA} : nLst t ρ Ql E = t ρ (fun ds ρ' => ds.length ≤ LIM ∧ Ql ds ρ') E := (rfl)
@[simp] theorem dOp_s {f : O2} {a b : DE} : dOp f a b ρ Q E = a ρ (fun x ρ1 => b ρ1 (fun y ρ2 => f x y fun z => Q z ρ2) E) E := (rfl)
@[simp] theorem dCB_s {f : OC} {t : DA} : dCB f t ρ Q E = t ρ (fun ds ρ1 => f ds fun d => Q d ρ1) E := (rfl)
theorem dCall_s {n : Nat} {F : FS} {t : DA} : dCall n F t ρ Q E = t ρ (fun ds ρ1 => ds.length = n ∧ F (vals ds) (fun d _ => Q d ρ1) (fun x _ => E x ρ1)) E := rfl
theorem dCall0_s {F : FS} : dCall0 F ρ Q E = F [] (fun d _ => Q d ρ) (fun _ _ => False) := rfl
@[simp] theorem dChain_s {f g : O2} {a b c : DE} : dChain f g a b c ρ Q E = a ρ (fun x ρ1 => b ρ1 (fun y ρ2 => f x y fun z => ∃ k, z = .bl k ∧ if k = true then c ρ2 (fun w ρ3 => g y w fun r => Q r ρ3) E else Q (.bl false) ρ2) E) E := (rfl)
@[simp] theorem dUn_s {f : D → (D → Prop) → Prop} {a : DE} : dUn f a ρ Q E = a ρ (fun x ρ1 => f x fun z => Q z ρ1) E := (rfl)
@[simp] theorem dTst_s {t : DE} : dTst t ρ Qb E = t ρ (fun d ρ' => ∃ b, d = .bl b ∧ Qb b ρ') E := (rfl)
@[simp] theorem tAndD_s {t u : DT} : tAndD t u ρ Qb E = t ρ (fun c ρ1 => if c = true then u ρ1 Qb E else Qb false ρ1) E := (rfl)
@[simp] theorem tOrD_s {t u : DT} : tOrD t u ρ Qb E = t ρ (fun c ρ1 => if c = true then Qb true ρ1 else u ρ1 Qb E) E := (rfl)
@[simp] theorem tNotD_s {t : DT} : tNotD t ρ Qb E = t ρ (fun c ρ1 => Qb (!c) ρ1) E := (rfl)
@[simp] theorem dAnd_s {a b : DE} : dAnd a b ρ Q E = a ρ (fun x ρ1 => ∃ c, x = .bl c ∧ if c = true then b ρ1 Q E else Q (.bl false) ρ1) E := (rfl)
@[simp] theorem dOr_s {a b : DE} : dOr a b ρ Q E = a ρ (fun x ρ1 => ∃ c, x = .bl c ∧ if c = true then Q (.bl true) ρ1 else b ρ1 Q E) E := (rfl)
@[simp] theorem dNot_s {a : DE} : dNot a ρ Q E = a ρ (fun x ρ1 => ∃ c, x = .bl c ∧ Q (.bl (!c)) ρ1) E := (rfl)
@[simp] theorem dIf_s {t : DT} {a b : DE} : dIf t a b ρ Q E = t ρ (fun c ρ1 => if c = true then a ρ1 Q E else b ρ1 Q E) E := (rfl)
@[simp] theorem dSl_s {t : DE} {lo hi : DO} : dSl t lo hi ρ Q E = t ρ (fun x ρ1 => lo ρ1 (fun l ρ2 => hi ρ2 (fun h ρ3 => oSl x l h fun z => Q z ρ3) E) E) E := (rfl)
@[simp] theorem oNo_s {Qo : Option Int → Rho → Prop} : oNo ρ Qo E = Qo none ρ := (rfl)
@[simp] theorem oSome_s {t : DE} {Qo : Option Int → Rho → Prop} : oSome t ρ Qo E = t ρ (fun d ρ' => ∃ i, d = .int i ∧ Qo (some i) ρ') E := (rfl)
@[simp] theorem sNext_s : sNext B E ρ = B.nx ρ := (rfl)
@[simp] theorem sSeq_s {t u : DS} : sSeq t u B E ρ = t { B with nx := fun ρ' => u B E ρ' } E ρ := (rfl)
@[simp] theorem sDrop_s {t : DE} : sDrop t B E ρ = t ρ (fun _ ρ' => B.nx ρ') E := (rfl)
@[simp] theorem sRet_s {t : DE} : sRet t B E ρ = t ρ B.rt E := (rfl)
@[simp] theorem sRetN_s : sRetN B E ρ = B.rt .non ρ := (rfl)
@[simp] theorem sIf_s {c : DT} {t u : DS} : sIf c t u B E ρ = c ρ (fun b ρ' => if b = true then t B E ρ' else u B E ρ') E := (rfl)
@[simp] theorem sAsg_s {t : DE} {g : DG} : sAsg t g B E ρ = t ρ (fun d ρ' => g d ρ' B.nx) E := (rfl)
@[simp] theorem sRaise_s {n : Str} : sRaise n B E ρ = E ⟨n, none⟩ ρ := (rfl)
theorem gNm_s {i : Nat} {d : D} : gNm i d ρ Qr = (nb (slAt ρ i) ∧ Qr (ρ.set i (.val d))) := rfl
@[simp] theorem gNm_z {d : D} {x : Sl} : gNm 0 d (x :: ρ) Qr = (nb x ∧ Qr (.val d :: ρ)) := (rfl)
@[simp] theorem gNm_n {i : Nat} {d : D} {x : Sl} : gNm (i + 1) d (x :: ρ) Qr = gNm i d ρ (fun ρ' => Qr (x :: ρ')) := (rfl)
@[simp] theorem gTp_s {n : Nat} {g : DGs} {d : D} : gTp n g d ρ Qr = (match d with | .tup ds => ds.length = n ∧ g ds ρ Qr | _ => False) := (rfl)
@[simp] theorem gN_s : gN [] ρ Qr = Qr ρ := (rfl)
@[simp] theorem gC_s {g : DG} {h : DGs} {d : D} {ds : List D} : gC g h (d :: ds) ρ Qr = g d ρ fun ρ' => h ds ρ' Qr := (rfl)
@[simp] theorem nb_v {d : D} : nb (.val d) = True := (rfl)
@[simp] theorem nb_n : nb .no = True := (rfl)
@[simp] theorem nb_o {ds : List D} : nb (.own ds) = True := (rfl)
@[simp] theorem sFor_s {ti : DI} {g : DG} {tb : DS} : sFor ti g tb B E ρ = ti ρ (fun ds ρ' => forD g tb B E ds ρ') E := (rfl)
@[simp] theorem iSq_s {t : DE} {Qi : List D → Rho → Prop} : iSq t ρ Qi E = t ρ (fun d ρ' => ∃ xs, seqD d = some xs ∧ Qi xs ρ') E := (rfl)
@[simp] theorem seqD_l {l : List D} : seqD (.lst l) = some l := (rfl)
@[simp] theorem seqD_t {l : List D} : seqD (.tup l) = some l := (rfl)
@[simp] theorem iEn_s {t : DA} {Qi : List D → Rho → Prop} : iEn t ρ Qi E = t ρ (fun ds ρ' => ∃ d xs, ds = [d] ∧ seqD d = some xs ∧ Qi (enumD xs) ρ') E := (rfl)
@[simp] theorem iZp_s {t : DA} {Qi : List D → Rho → Prop} : iZp t ρ Qi E = t ρ (fun ds ρ' => ∃ d e xs ys, ds = [d, e] ∧ seqD d = some xs ∧ seqD e = some ys ∧ Qi (zipD xs ys) ρ') E := (rfl)
@[simp] theorem iR1_s {t : DA} {Qi : List D → Rho → Prop} : iR1 t ρ Qi E = t ρ (fun ds ρ' => ∃ n : Int, ds = [.int n] ∧ (-1000000 ≤ n ∧ n ≤ 1000000) ∧ Qi ((List.range n.toNat).map fun (i : Nat) => D.int (0 + i)) ρ') E := (rfl)
@[simp] theorem iR2_s {t : DA} {Qi : List D → Rho → Prop} : iR2 t ρ Qi E = t ρ (fun ds ρ' => ∃ a b : Int, ds = [.int a, .int b] ∧ (-1000000 ≤ a ∧ a ≤ 1000000 ∧ -1000000 ≤ b ∧ b ≤ 1000000) ∧ Qi ((List.range (b - a).toNat).map fun (i : Nat) => D.int (a + i)) ρ') E := (rfl)
@[simp] theorem fIsi_s {x : D} {n : String} {Qd : D → Prop} : fIsi [x, .ty n] Qd = ∃ b, isTy x n = some b ∧ Qd (.bl b) := (rfl)
@[simp] theorem fLen_t {ds : List D} {Qd : D → Prop} : fLen [.tup ds] Qd = Qd (.int ds.length) := (rfl)
@[simp] theorem fLen_l {ds : List D} {Qd : D → Prop} : fLen [.lst ds] Qd = Qd (.int ds.length) := (rfl)
@[simp] theorem fLen_c {ns : List Int} {Qd : D → Prop} : fLen [.scr ns] Qd = Qd (.int ns.length) := (rfl)
@[simp] theorem fInt_i {i : Int} {Qd : D → Prop} : fInt [.int i] Qd = Qd (.int i) := (rfl)
@[simp] theorem fAbs_i {i : Int} {Qd : D → Prop} : fAbs [.int i] Qd = Qd (.int (if i < 0 then -i else i)) := (rfl)
@[simp] theorem fMax2_i {i j : Int} {Qd : D → Prop} : fMax2 [.int i, .int j] Qd = Qd (.int (if j > i then j else i)) := (rfl)
@[simp] theorem fMin2_i {i j : Int} {Qd : D → Prop} : fMin2 [.int i, .int j] Qd = Qd (.int (if j < i then j else i)) := (rfl)
@[simp] theorem fTuple_t {l : List D} {Qd : D → Prop} : fTuple [.tup l] Qd = Qd (.tup l) := (rfl)
@[simp] theorem fTuple_l {l : List D} {Qd : D → Prop} : fTuple [.lst l] Qd = Qd (.tup l) := (rfl)
@[simp] theorem nList_t {t : DA} : nList t ρ Ql E = t ρ (fun ds ρ' => match ds with | [.tup xs] => Ql xs ρ' | [.lst xs] => Ql xs ρ' | _ => False) E := (rfl)
@[simp] theorem nLc_s {ti : DI} {g : DG} {tt : DT} {te : DE} {vs : List Nat} : nLc ti g tt te vs ρ Ql E = ((∀ v ∈ vs, heldAt ρ v = none) ∧ ti ρ (fun ds ρ' => (ds.length ≤ LIM ∧ ∀ v ∈ vs, heldAt ρ' v = none) ∧ lcD g tt te vs ds [] ρ' Ql) E) := (rfl)
@[simp] theorem vals_nil : vals [] = [] := (rfl)
@[simp] theorem vals_cons {d : D} {ds : List D} : vals (d :: ds) = .val d :: vals ds := (rfl)
theorem held_v {d : D} {i : Nat} {ρ : Rho} (h : slAt ρ i = .val d) : heldAt ρ i = none := by unfold heldAt; rw [h]; rfl
@[simp] theorem oEq_s {x y : D} {Qd : D → Prop} : oEq x y Qd = ((okD 60 x = true ∧ okD 60 y = true) ∧ Qd (.bl (eqD x y))) := (rfl)
@[simp] theorem oNe_s {x y : D} {Qd : D → Prop} : oNe x y Qd = ((okD 60 x = true ∧ okD 60 y = true) ∧ Qd (.bl (!eqD x y))) := (rfl)
@[simp] theorem oIsN_s {x : D} {Qd : D → Prop} : oIsN x .non Qd = Qd (.bl (isNon x)) := (rfl)
@[simp] theorem oNotN_s {x : D} {Qd : D → Prop} : oNotN x .non Qd = Qd (.bl (!isNon x)) := (rfl)
@[simp] theorem oAdd_i {i j : Int} {Qd : D → Prop} : oAdd (.int i) (.int j) Qd = Qd (.int (i + j)) := (rfl)
@[simp] theorem oAdd_t {i j : List D} {Qd : D → Prop} : oAdd (.tup i) (.tup j) Qd = (i.length + j.length ≤ LIM ∧ Qd (.tup (i ++ j))) := (rfl)
@[simp] theorem oAdd_l {i j : List D} {Qd : D → Prop} : oAdd (.lst i) (.lst j) Qd = (i.length + j.length ≤ LIM ∧ Qd (.lst (i ++ j))) := (rfl)
@[simp] theorem oSub_i {i j : Int} {Qd : D → Prop} : oSub (.int i) (.int j) Qd = (True ∧ Qd (.int (i - j))) := (rfl)
@[simp] theorem oMulI_i {i j : Int} {Qd : D → Prop} : oMulI (.int i) (.int j) Qd = (MulOk i j ∧ Qd (.int (i * j))) := (rfl)
@[simp] theorem oMod_i {i j : Int} {Qd : D → Prop} : oMod (.int i) (.int j) Qd = (0 < j ∧ Qd (.int (i % j))) := (rfl)
@[simp] theorem oDiv_i {i j : Int} {Qd : D → Prop} : oDiv (.int i) (.int j) Qd = (DivOk j ∧ Qd (.int (i / j))) := (rfl)
@[simp] theorem oPow_i {i j : Int} {Qd : D → Prop} : oPow (.int i) (.int j) Qd = ((0 ≤ j ∧ j ≤ 1000 ∧ -(2 ^ 60) < i ∧ i < 2 ^ 60) ∧ Qd (.int (i ^ j.toNat))) := (rfl)
@[simp] theorem oLt_i {i j : Int} {Qd : D → Prop} : oLt (.int i) (.int j) Qd = (True ∧ Qd (.bl (decide (i < j)))) := (rfl)
@[simp] theorem oLe_i {i j : Int} {Qd : D → Prop} : oLe (.int i) (.int j) Qd = (True ∧ Qd (.bl (decide (i ≤ j)))) := (rfl)
@[simp] theorem oGt_i {i j : Int} {Qd : D → Prop} : oGt (.int i) (.int j) Qd = (True ∧ Qd (.bl (decide (j < i)))) := (rfl)
@[simp] theorem oGe_i {i j : Int} {Qd : D → Prop} : oGe (.int i) (.int j) Qd = (True ∧ Qd (.bl (decide (j ≤ i)))) := (rfl)
@[simp] theorem oIx_t {ds : List D} {i : Int} {Qd : D → Prop} : oIx (.tup ds) (.int i) Qd = ∃ d, atI ds i = some d ∧ Qd d := (rfl)
@[simp] theorem oIx_l {ds : List D} {i : Int} {Qd : D → Prop} : oIx (.lst ds) (.int i) Qd = ∃ d, atI ds i = some d ∧ Qd d := (rfl)
@[simp] theorem oIx_c {ns : List Int} {i : Int} {Qd : D → Prop} : oIx (.scr ns) (.int i) Qd = ∃ n, atI ns i = some n ∧ Qd (.int n) := (rfl)
@[simp] theorem oNeg_i {i : Int} {Qd : D → Prop} : oNeg (.int i) Qd = Qd (.int (-i)) := (rfl)
@[simp] theorem oSl_t {ds : List D} {lo hi : Option Int} {Qd : D → Prop} : oSl (.tup ds) lo hi Qd = Qd (.tup (cut ds lo hi)) := (rfl)
@[simp] theorem oSl_l {ds : List D} {lo hi : Option Int} {Qd : D → Prop} : oSl (.lst ds) lo hi Qd = Qd (.lst (cut ds lo hi)) := (rfl)
end
section
variable {ρ : Rho} {Q : D → Rho → Prop} {Ql : List D → Rho → Prop} {E : EQ} {B : DEnds}
@[simp] theorem sPar_s {i j : Nat} {t : DA} : sPar i j t B E ρ = t ρ (fun ds ρ' => match ds with
  | [d, e] => (nb (slAt ρ' i) ∧ nb (slAt (ρ'.set i (.val d)) j)) ∧ B.nx ((ρ'.set i (.val d)).set j (.val e))
  | _ => False) E := (rfl)
@[simp] theorem sParN_s {i j : Nat} {t : DA} {u : DE} : sParN i j t u B E ρ = t ρ (fun ds ρ1 => u ρ1 (fun d ρ2 => (nb (slAt ρ2 i) ∧ i < ρ2.length ∧ nb (slAt (ρ2.set i (.own ds)) j)) ∧ B.nx ((ρ2.set i (.own ds)).set j (.val d))) E) E := (rfl)
@[simp] theorem sParV_s {i j : Nat} {t : DA} {u : DE} : sParV i j u t B E ρ = u ρ (fun d ρ1 => t ρ1 (fun ds ρ2 => (nb (slAt ρ2 i) ∧ j < ρ2.length ∧ nb (slAt (ρ2.set i (.val d)) j)) ∧ B.nx ((ρ2.set i (.val d)).set j (.own ds))) E) E := (rfl)
@[simp] theorem sOwn_s {i : Nat} {t : DA} : sOwn i t B E ρ = t ρ (fun ds ρ' => nb (slAt ρ' i) ∧ i < ρ'.length ∧ B.nx (ρ'.set i (.own ds))) E := (rfl)
@[simp] theorem sApp_s {i : Nat} {t : DA} : sApp i t B E ρ = (Held ρ i ∧ t ρ (fun es ρ' => ∃ d ds, es = [d] ∧ heldAt ρ' i = some ds ∧ ds.length < LIM ∧ B.nx (putAt ρ' i (ds ++ [d]))) E) := (rfl)
@[simp] theorem sSto_s {i : Nat} {te tk : DE} : sSto i te tk B E ρ = te ρ (fun d ρ1 => Held ρ1 i ∧ tk ρ1 (fun k ρ2 => ∃ n ds j, k = .int n ∧ heldAt ρ2 i = some ds ∧ ixN ds.length n = some j ∧ B.nx (putAt ρ2 i (ds.set j d))) E) E := (rfl)
@[simp] theorem dIxH_s {i : Nat} {tk : DE} : dIxH i tk ρ Q E = (Held ρ i ∧ tk ρ (fun k ρ1 => ∃ n ds d, k = .int n ∧ heldAt ρ1 i = some ds ∧ atI ds n = some d ∧ Q d ρ1) E) := (rfl)
@[simp] theorem dLenH_s {i : Nat} : dLenH i ρ Q E = ∃ ds, heldAt ρ i = some ds ∧ Q (.int ds.length) ρ := (rfl)
@[simp] theorem dInH_s {n : Bool} {i : Nat} {t : DE} : dInH n i t ρ Q E = t ρ (fun d ρ1 => ∃ ds, heldAt ρ1 i = some ds ∧ (flatD d = true ∧ ds.all flatD = true) ∧ Q (.bl (if n = true then !(ds.any fun y => eqD y d) else ds.any fun y => eqD y d)) ρ1) E := (rfl)
@[simp] theorem dCallR_s {n : Nat} {F : FS} {i : Nat} {t : DA} : dCallR n F i t ρ Q E = ((∃ ds0, heldAt ρ i = some ds0) ∧ t ρ (fun ds ρ1 => ds.length + 1 = n ∧ ∃ m, heldAt ρ1 i = some m ∧
  F (.brw m :: vals ds) (fun d as' => ∃ m', as' = .brw m' :: vals ds ∧ Q d (putAt ρ1 i m')) (fun x as' => ∃ m', as' = .brw m' :: vals ds ∧ E x (putAt ρ1 i m'))) E) := (rfl)
@[simp] theorem nRg1_s {t : DE} : nRg1 t ρ Ql E = t ρ (fun d ρ' => ∃ n : Int, d = .int n ∧ (0 ≤ n ∧ n ≤ 1000000) ∧ Ql ((List.range n.toNat).map fun (i : Nat) => D.int (0 + i)) ρ') E := (rfl)
@[simp] theorem dIxL_s {te : DE} {tx : DA} : dIxL te tx ρ Q E = te ρ (fun d ρ1 => ∃ ds, d = .lst ds ∧ tx ρ1 (fun xs ρ2 => ∃ x j, xs = [x] ∧ (flatD x = true ∧ flatAll ds = true) ∧ ixOf (fun y => eqD y x) ds = some j ∧ Q (.int (j : Nat)) ρ2) E) E := (rfl)
@[simp] theorem dErr_s {nm : Str → Option Str} {t : DE} : dErr nm t ρ Q E = t ρ (fun _ ρ' => Q (.str "") ρ') (fun x ρ' => x.pay = none ∧ ∃ r, nm x.cls = some r ∧ Q (.str r) ρ') := (rfl)
@[simp] theorem Held_z {x : Sl} {ds : List D} (h : x.held = some ds) : Held (x :: ρ) 0 = True := eq_true ⟨ds, h⟩
@[simp] theorem Held_o {ds : List D} : Held (.own ds :: ρ) 0 = True := eq_true ⟨ds, rfl⟩
@[simp] theorem Held_b {ds : List D} : Held (.brw ds :: ρ) 0 = True := eq_true ⟨ds, rfl⟩
@[simp] theorem Held_s {x : Sl} {n : Nat} : Held (x :: ρ) (n + 1) = Held ρ n := (rfl)
@[simp] theorem put_z {x : Sl} {ds : List D} : putAt (x :: ρ) 0 ds = x.put ds :: ρ := (rfl)
@[simp] theorem put_s {x : Sl} {n : Nat} {ds : List D} : putAt (x :: ρ) (n + 1) ds = x :: putAt ρ n ds := (rfl)
@[simp] theorem pt_o {ds es : List D} : (Sl.own ds).put es = .own es := (rfl)
@[simp] theorem pt_b {ds es : List D} : (Sl.brw ds).put es = .brw es := (rfl)
@[simp] theorem oRep_s {ds : List D} {k : Int} {Qd : D → Prop} : oRep (.lst ds) (.int k) Qd = ((0 ≤ k ∧ k ≤ 1000 ∧ ds.length ≤ 1000) ∧ Qd (.lst (List.replicate k.toNat ds).flatten)) := (rfl)
end
/-! ### comprehensions with a plain test -/
theorem wipe_one {ρ : Rho} {i : Nat} : wipeR ρ [i] = ρ.set i .no := rfl
theorem lcD_pure {i : Nat} {tt : DT} {te : DE} {p : D → Bool} {f : D → D} {ρ : Rho} (hi : i < ρ.length) (hh : nb (slAt ρ i)) :
    ∀ (ds acc : List D) (Q : List D → Rho → Prop), (∀ d ∈ ds, ∀ (Qb : Bool → Rho → Prop), Qb (p d) (ρ.set i (.val d)) → tt (ρ.set i (.val d)) Qb (fun _ _ => False)) → (∀ d ∈ ds, p d = true → ∀ (Qd : D → Rho → Prop), Qd (f d) (ρ.set i (.val d)) → te (ρ.set i (.val d)) Qd (fun _ _ => False)) →
      Q (acc ++ (ds.filter p).map f) ρ → lcD (gNm i) tt te [i] ds acc ρ Q
  | [], acc, Q, _, _, h => by simpa [lcD] using h
  | d :: ds, acc, Q, h1, h2, h => by
    have e1 : (wipeR ρ [i]).set i (.val d) = ρ.set i (.val d) := by rw [wipe_one, List.set_set]
    have e2 : bakR ρ (ρ.set i (.val d)) [i] = ρ := by
      unfold bakR bakR
      rw [List.set_set]
      apply List.ext_getElem?
      intro j
      rw [List.getElem?_set]
      by_cases q : i = j
      · subst q
        rw [if_pos rfl, if_pos hi]
        unfold slAt
        rw [List.getD_eq_getElem?_getD, List.getElem?_eq_getElem hi]
        rfl
      · rw [if_neg q]
    unfold lcD
    refine ⟨?_, ?_⟩
    · rw [wipe_one, slAt_set, if_pos ⟨rfl, hi⟩]
      trivial
    · rw [e1]
      refine h1 d List.mem_cons_self _ ?_
      cases hp : p d with
      | true =>
        rw [if_pos rfl]
        refine h2 d List.mem_cons_self hp _ ?_
        rw [e2]
        refine lcD_pure hi hh ds _ Q (fun d hd => h1 d (List.mem_cons_of_mem _ hd)) (fun d hd => h2 d (List.mem_cons_of_mem _ hd)) ?_
        rw [List.filter_cons_of_pos hp] at h
        simpa using h
      | false =>
        rw [if_neg (by decide), e2]
        refine lcD_pure hi hh ds _ Q (fun d hd => h1 d (List.mem_cons_of_mem _ hd)) (fun d hd => h2 d (List.mem_cons_of_mem _ hd)) ?_
        rw [List.filter_cons_of_neg (by rw [hp]; decide)] at h
        exact h
theorem noOwn_vals {ds : List D} : NoOwn (vals ds) := fun i xs e => by
  rw [vals_at] at e
  cases q : ds[i]? with
  | none => rw [q] at e; cases e
  | some d => rw [q] at e; cases e
theorem exit_vals {ds : List D} {ρ : Rho} : exitR (vals ds) ρ = vals ds := by
  apply List.ext_getElem?
  intro i
  unfold exitR vals
  rw [List.getElem?_mapIdx, List.getElem?_map]
  cases ds[i]? <;> rfl
/-! ### laws of defs that take values alone -/
abbrev SV := List D → (D → Prop) → (Exc → Prop) → Prop
def FV (S : SV) : FS := fun as Q E => ∃ ds, as = vals ds ∧ S ds (fun d => Q d as) (fun x => E x as)
theorem vals_inj : ∀ {ds es : List D}, vals ds = vals es → ds = es
  | [], [], _ => rfl
  | d :: ds, e :: es, h => by
    rw [vals_cons, vals_cons] at h
    injection h with h1 h2
    injection h1 with h1
    rw [h1, vals_inj h2]
  | [], _ :: _, h => by cases h
  | _ :: _, [], h => by cases h
theorem FV_vals {S : SV} {ds : List D} {Q : D → List Sl → Prop} {E : EQ} : FV S (vals ds) Q E = S ds (fun d => Q d (vals ds)) (fun x => E x (vals ds)) := by
  refine propext ⟨fun ⟨es, e, h⟩ => ?_, fun h => ⟨ds, rfl, h⟩⟩
  have q := vals_inj e
  subst q
  exact h
theorem FV_nil {S : SV} {Q : D → List Sl → Prop} {E : EQ} : FV S [] Q E = S [] (fun d => Q d []) (fun x => E x []) := FV_vals (ds := [])
theorem Body.v {t : DS} {n m : Nat} {S : SV} (h : ∀ ds Q E, S ds Q E → ds.length = m ∧ t { nx := fun _ => Q .non, rt := fun d _ => Q d } (fun x _ => E x) (entR (vals ds) n)) : Body t n m (FV S) := by
  rintro as Qd Ed ⟨ds, rfl, hS⟩
  obtain ⟨h1, h2⟩ := h ds _ _ hS
  refine ⟨by unfold vals; rw [List.length_map]; exact h1, noOwn_vals, ?_⟩
  simp only [exit_vals]
  exact h2
@[simp] theorem dCall_v {n : Nat} {S : SV} {t : DA} {ρ : Rho} {Q : D → Rho → Prop} {E : EQ} : dCall n (FV S) t ρ Q E = t ρ (fun ds ρ1 => ds.length = n ∧ S ds (fun d => Q d ρ1) (fun x => E x ρ1)) E := by
  rw [dCall_s]
  simp only [FV_vals]
@[simp] theorem dCall0_v {S : SV} {ρ : Rho} {Q : D → Rho → Prop} {E : EQ} : dCall0 (FV S) ρ Q E = S [] (fun d => Q d ρ) (fun _ => False) := by
  rw [dCall0_s]
  simp only [FV_nil]
/-- a def that gives f of what it got, where C holds -/
def fnS (C : List D → Prop) (f : List D → D) : SV := fun ds Q _ => C ds ∧ Q (f ds)
@[simp] theorem ent_def {as : List Sl} {n : Nat} : entR as n = as ++ List.replicate (n - as.length) .no := (rfl)
@[simp] theorem rep1 {x : Sl} : List.replicate 1 x = [x] := (rfl)
@[simp] theorem rep2 {x : Sl} : List.replicate 2 x = [x, x] := (rfl)
@[simp] theorem rep3 {x : Sl} : List.replicate 3 x = [x, x, x] := (rfl)
@[simp] theorem rep4 {x : Sl} : List.replicate 4 x = [x, x, x, x] := (rfl)
@[simp] theorem rep5 {x : Sl} : List.replicate 5 x = [x, x, x, x, x] := (rfl)
@[simp] theorem rep6 {x : Sl} : List.replicate 6 x = [x, x, x, x, x, x] := (rfl)
@[simp] theorem rep7 {x : Sl} : List.replicate 7 x = [x, x, x, x, x, x, x] := (rfl)
@[simp] theorem rep8 {x : Sl} : List.replicate 8 x = [x, x, x, x, x, x, x, x] := (rfl)
@[simp] theorem rep9 {x : Sl} : List.replicate 9 x = [x, x, x, x, x, x, x, x, x] := (rfl)
@[simp] theorem rep10 {x : Sl} : List.replicate 10 x = [x, x, x, x, x, x, x, x, x, x] := (rfl)
section
variable {α : Type} {xs : List α}
theorem atI_pos {i : Int} (h : 0 ≤ i) : atI xs i = xs[i.toNat]? := by
  unfold atI ixN
  rw [if_pos h]
  by_cases k : i < xs.length
  · rw [if_pos k]
    rfl
  · rw [if_neg k, List.getElem?_eq_none (by omega)]
    rfl
@[simp] theorem atI_n {i : Nat} : atI xs (i : Int) = xs[i]? := by rw [atI_pos (by omega)]; rfl
@[simp] theorem atI_n1 {i : Nat} : atI xs ((i : Int) + 1) = xs[i + 1]? := by rw [atI_pos (by omega)]; rfl
@[simp] theorem atI_0 : atI xs 0 = xs[0]? := atI_pos (by decide)
@[simp] theorem atI_1 : atI xs 1 = xs[1]? := atI_pos (by decide)
@[simp] theorem atI_2 : atI xs 2 = xs[2]? := atI_pos (by decide)
@[simp] theorem atI_3 : atI xs 3 = xs[3]? := atI_pos (by decide)
@[simp] theorem atI_4 : atI xs 4 = xs[4]? := atI_pos (by decide)
@[simp] theorem atI_5 : atI xs 5 = xs[5]? := atI_pos (by decide)
@[simp] theorem atI_m1 : atI xs (-1) = xs.getLast? := by
  cases h : xs.getLast? with
  | none =>
    have e := List.getLast?_eq_none_iff.mp h
    subst e
    rfl
  | some v =>
    obtain ⟨ys, rfl⟩ := List.getLast?_eq_some_iff.mp h
    exact atI_last ys v
end
/-- the flag is asked -/
theorem ifb {b : Bool} {P Q : Prop} : (b = true → P) → (b = false → Q) → (if b = true then P else Q) := by
  cases b
  · intro _ h
    rw [if_neg (by decide)]
    exact h rfl
  · intro h _
    rw [if_pos rfl]
    exact h rfl
/-- enumerate, place by place -/
def enF : Nat → List D → List D
  | _, [] => []
  | i, x :: xs => D.tup [.int (i : Int), x] :: enF (i + 1) xs
theorem enF_eq : ∀ (xs : List D) (k : Nat), xs.mapIdx (fun i x => D.tup [.int (0 + ((i + k : Nat) : Int)), x]) = enF k xs
  | [], _ => rfl
  | x :: xs, k => by
    rw [List.mapIdx_cons]
    unfold enF
    rw [← enF_eq xs (k + 1)]
    congr 1
    · simp
    · congr 1
      funext i y
      congr 4
      omega
theorem enumD_eq {xs : List D} : enumD xs = enF 0 xs := enF_eq xs 0
end TS
set_option Elab.async false
set_option linter.all false
set_option maxRecDepth 100000
set_option maxHeartbeats 4000000
set_option exponentiation.threshold 10000
/-! plain functions and laws for the package's defs -/
namespace TS
open PySem PySem.Spec PyProof.Rows L2
/-! ### plain data of little depth -/
def pdB : Nat → D → Bool
  | _, .non => true
  | _, .bl _ => true
  | _, .int _ => true
  | _, .str x => PyData.strOk x
  | n + 1, .tup ds => decide (ds.length ≤ 1000) && ds.all (pdB n)
  | n + 1, .lst ds => decide (ds.length ≤ 1000) && ds.all (pdB n)
  | _, _ => false
def pd (d : D) : Prop := pdB 40 d = true
theorem pdB_ok : ∀ (n : Nat) (d : D), pdB n d = true → okD n d = true
  | n, .non, _ => by cases n <;> rfl
  | n, .bl _, _ => by cases n <;> rfl
  | n, .int _, _ => by cases n <;> rfl
  | n, .str x, h => by cases n <;> exact h
  | 0, .tup ds, h => by simp [pdB] at h
  | 0, .lst ds, h => by simp [pdB] at h
  | n + 1, .tup ds, h => by
    simp only [pdB, Bool.and_eq_true, List.all_eq_true] at h
    simp only [okD, List.all_eq_true]
    exact fun d hd => pdB_ok n d (h.2 d hd)
  | n + 1, .lst ds, h => by
    simp only [pdB, Bool.and_eq_true, List.all_eq_true] at h
    simp only [okD, List.all_eq_true]
    exact fun d hd => pdB_ok n d (h.2 d hd)
  | n, .scr _, h => by cases n <;> simp [pdB] at h
  | n, .glo _, h => by cases n <;> simp [pdB] at h
  | n, .ty _, h => by cases n <;> simp [pdB] at h
theorem pdB_mono : ∀ (n m : Nat) (d : D), n ≤ m → pdB n d = true → pdB m d = true
  | n, m, .non, _, _ => by cases m <;> rfl
  | n, m, .bl _, _, _ => by cases m <;> rfl
  | n, m, .int _, _, _ => by cases m <;> rfl
  | n, m, .str x, _, h => by cases n <;> cases m <;> exact h
  | 0, _, .tup ds, _, h => by simp [pdB] at h
  | 0, _, .lst ds, _, h => by simp [pdB] at h
  | n + 1, 0, .tup ds, k, _ => absurd k (by omega)
  | n + 1, 0, .lst ds, k, _ => absurd k (by omega)
  | n + 1, m + 1, .tup ds, k, h => by
    simp only [pdB, Bool.and_eq_true, List.all_eq_true] at h ⊢
    exact ⟨h.1, fun d hd => pdB_mono n m d (by omega) (h.2 d hd)⟩
  | n + 1, m + 1, .lst ds, k, h => by
    simp only [pdB, Bool.and_eq_true, List.all_eq_true] at h ⊢
    exact ⟨h.1, fun d hd => pdB_mono n m d (by omega) (h.2 d hd)⟩
  | n, _, .scr _, _, h => by cases n <;> simp [pdB] at h
  | n, _, .glo _, _, h => by cases n <;> simp [pdB] at h
  | n, _, .ty _, _, h => by cases n <;> simp [pdB] at h
theorem pd_tup {ds : List D} (h : pd (.tup ds)) : ds.length ≤ 1000 ∧ ∀ d ∈ ds, pd d := by
  simp only [pd, pdB, Bool.and_eq_true, List.all_eq_true, decide_eq_true_eq] at h
  exact ⟨h.1, fun d hd => pdB_mono 39 40 d (by decide) (h.2 d hd)⟩
theorem pd_lst {ds : List D} (h : pd (.lst ds)) : ds.length ≤ 1000 ∧ ∀ d ∈ ds, pd d := by
  simp only [pd, pdB, Bool.and_eq_true, List.all_eq_true, decide_eq_true_eq] at h
  exact ⟨h.1, fun d hd => pdB_mono 39 40 d (by decide) (h.2 d hd)⟩
theorem pd_ok {d : D} (h : pd d) : okD 60 d = true := okD_mono 40 60 d (by decide) (pdB_ok 40 d h)
theorem pd_lok {ds : List D} (h : ∀ d ∈ ds, pd d) : okD 60 (.lst ds) = true := by
  simp only [okD, List.all_eq_true]
  exact fun d hd => okD_mono 40 59 d (by decide) (pdB_ok 40 d (h d hd))
@[simp] theorem eqL_nil {ds : List D} : eqD (.lst ds) (.lst []) = ds.isEmpty := by cases ds <;> simp [eqD, eqL]
def isTup : D → Bool
  | .tup _ => true
  | _ => false
@[simp] theorem isTup_t {l : List D} : isTup (.tup l) = true := (rfl)
def isBl : D → Bool
  | .bl _ => true
  | _ => false
def isStr : D → Bool
  | .str _ => true
  | _ => false
def isInt : D → Bool
  | .int _ => true
  | .bl _ => true
  | _ => false
theorem isTy_int {v : D} (h : pd v) : isTy v "int" = some (isInt v) := by cases v <;> first | rfl | cases h
theorem isTy_bool {v : D} (h : pd v) : isTy v "bool" = some (isBl v) := by cases v <;> first | rfl | cases h
theorem isTy_str {v : D} (h : pd v) : isTy v "str" = some (isStr v) := by cases v <;> first | rfl | cases h
theorem isTy_tup {v : D} (h : pd v) : isTy v "tuple" = some (isTup v) := by cases v <;> first | rfl | cases h
/-- [x for x in xs if not good(x)]: is it empty? -/
theorem lcD_none {i : Nat} {tt : DT} {ρ : Rho} {g : D → Bool} {ds : List D} {Q : List D → Rho → Prop} (hi : i < ρ.length) (hh : nb (slAt ρ i)) (hd : ∀ d ∈ ds, pd d)
    (htt : ∀ d ∈ ds, ∀ (Qb : Bool → Rho → Prop), Qb (g d) (ρ.set i (.val d)) → tt (ρ.set i (.val d)) Qb (fun _ _ => False)) (hQ : ∀ l : List D, okD 60 (.lst l) = true → l.isEmpty = ds.all g → Q l ρ) :
    lcD (gNm i) (tNotD tt) (dVar i) [i] ds [] ρ Q := by
  refine lcD_pure (p := fun d => !g d) (f := id) hi hh ds [] Q (fun d h Qb hq => htt d h _ hq) (fun d h hp Qd hq => ?_) ?_
  · have e : slAt (ρ.set i (.val d)) i = .val d := by rw [slAt_set, if_pos ⟨rfl, hi⟩]
    rw [dVar_s, e]
    exact hq
  · simp only [List.nil_append, List.map_id]
    refine hQ _ (pd_lok fun d h => hd d (List.mem_filter.mp h).1) ?_
    rw [Bool.eq_iff_iff]
    simp
/-! ### is it of the kind -/
def isWhole (v : D) (lo hi : Int) : Bool := match v with
  | .int i => decide (lo ≤ i) && decide (i ≤ hi)
  | _ => false
def atD (ds : List D) (i : Nat) : D := ds.getD i .non
def intD : D → Int
  | .int i => i
  | _ => 0
@[simp] theorem intD_i {i : Int} : intD (.int i) = i := (rfl)
def rising (ds : List D) : Bool := (List.range (ds.length - 1)).all fun i => decide (intD (atD ds i) < intD (atD ds (i + 1)))
def isRising (v : D) (most : Int) : Bool := match v with
  | .tup ds => ds.all (fun d => isWhole d 0 most) && rising ds
  | _ => false
def isPart (size number place : Int) (v : D) : Bool :=
  if place = 0 then isWhole v 0 1 else if place = 1 then isWhole v 0 (size - 1) else if place = 2 then isWhole v 0 size else if place = 3 then isNon v || isWhole v 0 (number - 1)
  else if place = 4 then isRising v 2 && !eqD v (.tup []) else isBl v
def isWay (size number : Int) (v : D) : Bool := match v with
  | .tup ds => decide (ds.length = 6) && (List.range 6).all fun i => isPart size number i (atD ds i)
  | _ => false
def S_is_whole : SV
  | [v, .int lo, .int hi], Q, _ => pd v ∧ Q (.bl (isWhole v lo hi))
  | _, _, _ => False
abbrev F_is_whole : FS := FV S_is_whole
@[simp] theorem S_is_whole_s {v : D} {lo hi : Int} {Q : D → Prop} {E : Exc → Prop} : S_is_whole [v, .int lo, .int hi] Q E = (pd v ∧ Q (.bl (isWhole v lo hi))) := (rfl)
def S_is_rising : SV
  | [v, .int most], Q, _ => pd v ∧ Q (.bl (isRising v most))
  | _, _, _ => False
abbrev F_is_rising : FS := FV S_is_rising
@[simp] theorem S_is_rising_s {v : D} {most : Int} {Q : D → Prop} {E : Exc → Prop} : S_is_rising [v, .int most] Q E = (pd v ∧ Q (.bl (isRising v most))) := (rfl)
def S_is_part : SV
  | [.int size, .int number, .int place, v], Q, _ => pd v ∧ Q (.bl (isPart size number place v))
  | _, _, _ => False
abbrev F_is_part : FS := FV S_is_part
@[simp] theorem S_is_part_s {size number place : Int} {v : D} {Q : D → Prop} {E : Exc → Prop} : S_is_part [.int size, .int number, .int place, v] Q E = (pd v ∧ Q (.bl (isPart size number place v))) := (rfl)
def S_is_way : SV
  | [.int size, .int number, v], Q, _ => pd v ∧ Q (.bl (isWay size number v))
  | _, _, _ => False
abbrev F_is_way : FS := FV S_is_way
@[simp] theorem S_is_way_s {size number : Int} {v : D} {Q : D → Prop} {E : Exc → Prop} : S_is_way [.int size, .int number, v] Q E = (pd v ∧ Q (.bl (isWay size number v))) := (rfl)
@[simp] theorem pdN {n : Nat} : pd (.int (n : Int)) := (rfl)
@[simp] theorem pdI {n : Int} : pd (.int n) := (rfl)
@[simp] theorem pdBl {b : Bool} : pd (.bl b) := (rfl)
@[simp] theorem pdNon : pd .non := (rfl)
theorem pd_range {n : Nat} : ∀ d ∈ (List.range n).map (fun (i : Nat) => D.int (i : Int)), pd d := fun d h => by
  obtain ⟨i, _, rfl⟩ := List.mem_map.mp h
  rfl
@[simp] theorem okD_i {n : Nat} {i : Int} : okD n (.int i) = true := by cases n <;> rfl
@[simp] theorem okD_b {n : Nat} {i : Bool} : okD n (.bl i) = true := by cases n <;> rfl
@[simp] theorem okD_n {n : Nat} : okD n .non = true := by cases n <;> rfl
@[simp] theorem okD_s {n : Nat} {x : Str} : okD n (.str x) = PyData.strOk x := by cases n <;> rfl
@[simp] theorem okD_nil {n : Nat} : okD (n + 1) (.lst []) = true := (rfl)
@[simp] theorem okD_nit {n : Nat} : okD (n + 1) (.tup []) = true := (rfl)
@[simp] theorem eqD_ii {i j : Int} : eqD (.int i) (.int j) = (i == j) := by simp [eqD]
@[simp] theorem eqD_ss {i j : Str} : eqD (.str i) (.str j) = (i == j) := by simp [eqD]
/-- a Bool is given back -/
theorem giveb {b : Bool} {Q : D → Prop} : (b = false ∧ Q (.bl false) ∨ b = true ∧ Q (.bl true)) ↔ Q (.bl b) := by cases b <;> simp
theorem givet {b : Bool} {ρ : Rho} {Q : Bool → Rho → Prop} : (b = false ∧ Q false ρ ∨ b = true ∧ Q true ρ) ↔ Q b ρ := by cases b <;> simp
@[simp] theorem oIn_tt {x : D} {ds : List D} {Q : D → Prop} : oIn x (.tup ds) Q = ((flatD x = true ∧ ds.all flatD = true) ∧ Q (.bl (ds.any fun y => eqD y x))) := by cases x <;> rfl
@[simp] theorem oIn_ll {x : D} {ds : List D} {Q : D → Prop} : oIn x (.lst ds) Q = ((flatD x = true ∧ ds.all flatD = true) ∧ Q (.bl (ds.any fun y => eqD y x))) := by cases x <;> rfl
@[simp] theorem oNotIn_tt {x : D} {ds : List D} {Q : D → Prop} : oNotIn x (.tup ds) Q = ((flatD x = true ∧ ds.all flatD = true) ∧ Q (.bl (!(ds.any fun y => eqD y x)))) := by cases x <;> rfl
@[simp] theorem oNotIn_ll {x : D} {ds : List D} {Q : D → Prop} : oNotIn x (.lst ds) Q = ((flatD x = true ∧ ds.all flatD = true) ∧ Q (.bl (!(ds.any fun y => eqD y x)))) := by cases x <;> rfl
@[simp] theorem flat_i {i : Int} : flatD (.int i) = true := (rfl)
@[simp] theorem flat_b {i : Bool} : flatD (.bl i) = true := (rfl)
@[simp] theorem flat_s {i : Str} : flatD (.str i) = true := (rfl)
@[simp] theorem flat_n : flatD .non = true := (rfl)
@[simp] theorem dIxT_s {ns : List Str} {tx : DA} {ρ : Rho} {Q : D → Rho → Prop} {E : EQ} : dIxT ns tx ρ Q E = tx ρ (fun xs ρ2 => ∃ z j, xs = [.str z] ∧ ixOf (fun y => eqD y (.str z)) (ns.map D.str) = some j ∧ Q (.int (j : Nat)) ρ2) E := (rfl)
@[simp] theorem sok_back : PyData.strOk (Str.ofString "back") = true := by decide +kernel
@[simp] theorem isStr_s {x : Str} : isStr (.str x) = true := (rfl)
/-! ### houses, people, rows -/
def MOST : Int := 1000000000000000000000000000000
def tupL : D → List D
  | .tup ds => ds
  | _ => []
def hasHouse (v : D) : Bool := match v with
  | .tup [s, w] => isWhole s 1 MOST && isTup w && decide (1 ≤ (tupL w).length) && decide ((tupL w).length ≤ 3) && (List.range (tupL w).length).all fun i => isWay (intD s) i (atD (tupL w) i)
  | _ => false
def S_has_house : SV
  | [v], Q, _ => pd v ∧ Q (.bl (hasHouse v))
  | _, _, _ => False
abbrev F_has_house : FS := FV S_has_house
@[simp] theorem S_has_house_s {v : D} {Q : D → Prop} {E : Exc → Prop} : S_has_house [v] Q E = (pd v ∧ Q (.bl (hasHouse v))) := (rfl)
def hasPerson (size : Int) (v : D) : Bool := match v with
  | .tup [k, a, b] => isWhole k 0 2 && isWhole a 0 (size - 1) && isWhole b 0 (size - 1)
  | _ => false
/-- a house's shape: its size and its ways are there -/
def Hsh (h : D) (size : Int) (ws : List D) : Prop := h = .tup [.int size, .tup ws]
def S_has_person : SV
  | [h, v], Q, _ => ∃ size ws, Hsh h size ws ∧ pd v ∧ Q (.bl (hasPerson size v))
  | _, _, _ => False
abbrev F_has_person : FS := FV S_has_person
@[simp] theorem S_has_person_s {h v : D} {Q : D → Prop} {E : Exc → Prop} : S_has_person [h, v] Q E = ∃ size ws, Hsh h size ws ∧ pd v ∧ Q (.bl (hasPerson size v)) := (rfl)
def PL : List Str := ["word", "start", "share", "fence", "kinds", "keeps"]
def plIx (x : Str) : Option Nat := ixOf (fun y => eqD y (.str x)) (PL.map D.str)
def isTurning (size : Int) (many : Nat) (v : D) : Bool := match v with
  | .tup (.str x :: n :: r) => isWhole n 0 (many - 1) && (match r with
    | [] => decide (x = "back")
    | [u] => (match plIx x with
      | some j => isPart size (intD n) j u
      | none => false)
    | _ => false)
  | _ => false
def S_is_turning : SV
  | [h, v], Q, _ => ∃ size ws, Hsh h size ws ∧ pd v ∧ Q (.bl (isTurning size ws.length v))
  | _, _, _ => False
abbrev F_is_turning : FS := FV S_is_turning
@[simp] theorem S_is_turning_s {h v : D} {Q : D → Prop} {E : Exc → Prop} : S_is_turning [h, v] Q E = ∃ size ws, Hsh h size ws ∧ pd v ∧ Q (.bl (isTurning size ws.length v)) := (rfl)
def hasRow (size : Int) (many : Nat) (v : D) : Bool := match v with
  | .tup ds => decide (ds.length ≤ 6) && ds.all fun t => isTurning size many t
  | _ => false
def S_has_row : SV
  | [h, v], Q, _ => ∃ size ws, Hsh h size ws ∧ pd v ∧ Q (.bl (hasRow size ws.length v))
  | _, _, _ => False
abbrev F_has_row : FS := FV S_has_row
@[simp] theorem S_has_row_s {h v : D} {Q : D → Prop} {E : Exc → Prop} : S_has_row [h, v] Q E = ∃ size ws, Hsh h size ws ∧ pd v ∧ Q (.bl (hasRow size ws.length v)) := (rfl)
def S_need_house : SV
  | [v], Q, E => pd v ∧ (hasHouse v = true → Q .non) ∧ (hasHouse v = false → E ⟨"InvalidHouse", none⟩)
  | _, _, _ => False
abbrev F_need_house : FS := FV S_need_house
@[simp] theorem S_need_house_s {v : D} {Q : D → Prop} {E : Exc → Prop} : S_need_house [v] Q E = (pd v ∧ (hasHouse v = true → Q .non) ∧ (hasHouse v = false → E ⟨"InvalidHouse", none⟩)) := (rfl)
def hSize : D → Int
  | .tup [.int s, _] => s
  | _ => 0
def hMany : D → Nat
  | .tup [_, .tup ws] => ws.length
  | _ => 0
def S_need_row : SV
  | [h, v], Q, E => pd h ∧ pd v ∧ (hasHouse h = false → E ⟨"InvalidHouse", none⟩) ∧ (hasHouse h = true → hasRow (hSize h) (hMany h) v = false → E ⟨"InvalidRow", none⟩) ∧ (hasHouse h = true → hasRow (hSize h) (hMany h) v = true → Q .non)
  | _, _, _ => False
abbrev F_need_row : FS := FV S_need_row
@[simp] theorem S_need_row_s {h v : D} {Q : D → Prop} {E : Exc → Prop} : S_need_row [h, v] Q E = (pd h ∧ pd v ∧ (hasHouse h = false → E ⟨"InvalidHouse", none⟩) ∧ (hasHouse h = true → hasRow (hSize h) (hMany h) v = false → E ⟨"InvalidRow", none⟩) ∧ (hasHouse h = true → hasRow (hSize h) (hMany h) v = true → Q .non)) := (rfl)
end TS
set_option Elab.async false
set_option linter.all false
set_option maxRecDepth 100000
set_option maxHeartbeats 4000000
set_option exponentiation.threshold 10000
/-! houses, turnings, people as plain structures -/
namespace TS
open PySem PySem.Spec PyProof.Rows L2
structure Wy where
  word : Int
  start : Int
  share : Int
  fence : Option Int
  kinds : List Int
  keeps : Bool
  deriving Inhabited
def optD : Option Int → D
  | none => .non
  | some i => .int i
def Wy.d (w : Wy) : D := .tup [.int w.word, .int w.start, .int w.share, optD w.fence, .tup (w.kinds.map .int), .bl w.keeps]
structure Hs where
  size : Int
  ways : List Wy
def Hs.d (h : Hs) : D := .tup [.int h.size, .tup (h.ways.map Wy.d)]
inductive Tn where
  | word (n : Nat) (v : Int) | start (n : Nat) (v : Int) | share (n : Nat) (v : Int) | fence (n : Nat) (v : Option Int) | kinds (n : Nat) (v : List Int) | keeps (n : Nat) (v : Bool) | back (n : Nat)
def Tn.d : Tn → D
  | .word n v => .tup [.str "word", .int n, .int v]
  | .start n v => .tup [.str "start", .int n, .int v]
  | .share n v => .tup [.str "share", .int n, .int v]
  | .fence n v => .tup [.str "fence", .int n, optD v]
  | .kinds n v => .tup [.str "kinds", .int n, .tup (v.map .int)]
  | .keeps n v => .tup [.str "keeps", .int n, .bl v]
  | .back n => .tup [.str "back", .int n]
def Tn.n : Tn → Nat
  | .word n _ | .start n _ | .share n _ | .fence n _ | .kinds n _ | .keeps n _ | .back n => n
def Tn.upd : Tn → Wy → Wy
  | .word _ v, w => { w with word := v }
  | .start _ v, w => { w with start := v }
  | .share _ v, w => { w with share := v }
  | .fence _ v, w => { w with fence := v }
  | .kinds _ v, w => { w with kinds := v }
  | .keeps _ v, w => { w with keeps := v }
  | .back _, w => w
def turn (h : Hs) (t : Tn) : Hs := match h.ways[t.n]? with
  | some w => { h with ways := h.ways.set t.n (t.upd w) }
  | none => h
def along : Hs → List Tn → List Hs
  | h, [] => [h]
  | h, t :: ts => h :: along (turn h t) ts
def behind (h : Hs) (ts : List Tn) : Hs := ts.foldl turn h
structure Pn where
  kind : Int
  a : Int
  b : Int
def Pn.d (p : Pn) : D := .tup [.int p.kind, .int p.a, .int p.b]
def Pn.at (p : Pn) (word : Int) : Int := if word = 0 then p.a else p.b
def fitsB (size : Int) (w : Wy) (p : Pn) (seen : List Int) : Bool :=
  w.kinds.contains p.kind && decide ((p.at w.word - w.start) % size < w.share) && (match w.fence with | none => true | some f => seen.contains f)
def keptB (w : Wy) (n : Int) (before : List Int) (back : Option Int) : Bool := w.keeps && before.contains n && !(back == some n)
/-- what a person sees: the ways one by one -/
def seenGo (size : Int) (p : Pn) (before : List Int) (back : Option Int) : Nat → List Wy → List Int → List Int
  | _, [], acc => acc
  | i, w :: ws, acc => seenGo size p before back (i + 1) ws (if keptB w i before back || fitsB size w p acc then acc ++ [(i : Int)] else acc)
def seenAt (h : Hs) (p : Pn) (before : List Int) (back : Option Int) : List Int := seenGo h.size p before back 0 h.ways []
def Tn.bk : Tn → Option Int
  | .back n => some n
  | _ => none
/-- the moments behind the first -/
def moments (p : Pn) : List Int → Hs → List Tn → List (List Int)
  | _, _, [] => []
  | last, h, t :: ts => let m := seenAt (turn h t) p last t.bk; m :: moments p m (turn h t) ts
def history (h : Hs) (p : Pn) (ts : List Tn) : List (List Int) := let m := seenAt h p [] none; m :: moments p m h ts
def intsD (l : List Int) : D := .tup (l.map .int)
/-- all lots of kinds -/
def KS7 : List (List Int) := [[0], [1], [2], [0, 1], [0, 2], [1, 2], [0, 1, 2]]
structure GoodW (size : Int) (i : Nat) (w : Wy) : Prop where
  word : w.word = 0 ∨ w.word = 1
  start : 0 ≤ w.start ∧ w.start < size
  share : 0 ≤ w.share ∧ w.share ≤ size
  fence : ∀ f, w.fence = some f → 0 ≤ f ∧ f < i
  kinds : w.kinds ∈ KS7
structure GoodH (h : Hs) : Prop where
  size : 1 ≤ h.size ∧ h.size ≤ 1000000000000000000000000000000
  many : 1 ≤ h.ways.length ∧ h.ways.length ≤ 3
  ways : ∀ i w, h.ways[i]? = some w → GoodW h.size i w
def GoodT (h : Hs) (t : Tn) : Prop := t.n < h.ways.length ∧ ∀ w, GoodW h.size t.n w → GoodW h.size t.n (t.upd w)
theorem GoodH.turn {h : Hs} {t : Tn} (g : GoodH h) (gt : GoodT h t) : GoodH (turn h t) := by
  unfold TS.turn
  cases e : h.ways[t.n]? with
  | none => exact g
  | some w =>
    refine ⟨g.size, by simpa using g.many, fun i v hv => ?_⟩
    simp only [List.getElem?_set] at hv
    by_cases q : t.n = i
    · subst q
      rw [if_pos rfl, if_pos gt.1] at hv
      cases hv
      exact gt.2 w (g.ways _ w e)
    · rw [if_neg q] at hv
      exact g.ways i v hv
theorem GoodT.turn {h : Hs} {t u : Tn} (g : GoodT h u) : GoodT (turn h t) u := by
  unfold TS.turn
  cases e : h.ways[t.n]? with
  | none => exact g
  | some w => exact ⟨by simpa using g.1, g.2⟩
/-! ### words, cuts -/
@[simp] theorem sok_word : PyData.strOk (Str.ofString "word") = true := by decide +kernel
@[simp] theorem sok_start : PyData.strOk (Str.ofString "start") = true := by decide +kernel
@[simp] theorem sok_share : PyData.strOk (Str.ofString "share") = true := by decide +kernel
@[simp] theorem sok_fence : PyData.strOk (Str.ofString "fence") = true := by decide +kernel
@[simp] theorem sok_kinds : PyData.strOk (Str.ofString "kinds") = true := by decide +kernel
@[simp] theorem sok_keeps : PyData.strOk (Str.ofString "keeps") = true := by decide +kernel
@[simp] theorem sb_word : (Str.ofString "word" == Str.ofString "back") = false := by decide +kernel
@[simp] theorem sb_start : (Str.ofString "start" == Str.ofString "back") = false := by decide +kernel
@[simp] theorem sb_share : (Str.ofString "share" == Str.ofString "back") = false := by decide +kernel
@[simp] theorem sb_fence : (Str.ofString "fence" == Str.ofString "back") = false := by decide +kernel
@[simp] theorem sb_kinds : (Str.ofString "kinds" == Str.ofString "back") = false := by decide +kernel
@[simp] theorem sb_keeps : (Str.ofString "keeps" == Str.ofString "back") = false := by decide +kernel
def PLD : List D := [.str "word", .str "start", .str "share", .str "fence", .str "kinds", .str "keeps"]
@[simp] theorem ix_word : ixOf (fun y => eqD y (D.str (Str.ofString "word"))) [.str (Str.ofString "word"), .str (Str.ofString "start"), .str (Str.ofString "share"), .str (Str.ofString "fence"), .str (Str.ofString "kinds"), .str (Str.ofString "keeps")] = some 0 := by decide +kernel
@[simp] theorem ix_start : ixOf (fun y => eqD y (D.str (Str.ofString "start"))) [.str (Str.ofString "word"), .str (Str.ofString "start"), .str (Str.ofString "share"), .str (Str.ofString "fence"), .str (Str.ofString "kinds"), .str (Str.ofString "keeps")] = some 1 := by decide +kernel
@[simp] theorem ix_share : ixOf (fun y => eqD y (D.str (Str.ofString "share"))) [.str (Str.ofString "word"), .str (Str.ofString "start"), .str (Str.ofString "share"), .str (Str.ofString "fence"), .str (Str.ofString "kinds"), .str (Str.ofString "keeps")] = some 2 := by decide +kernel
@[simp] theorem ix_fence : ixOf (fun y => eqD y (D.str (Str.ofString "fence"))) [.str (Str.ofString "word"), .str (Str.ofString "start"), .str (Str.ofString "share"), .str (Str.ofString "fence"), .str (Str.ofString "kinds"), .str (Str.ofString "keeps")] = some 3 := by decide +kernel
@[simp] theorem ix_kinds : ixOf (fun y => eqD y (D.str (Str.ofString "kinds"))) [.str (Str.ofString "word"), .str (Str.ofString "start"), .str (Str.ofString "share"), .str (Str.ofString "fence"), .str (Str.ofString "kinds"), .str (Str.ofString "keeps")] = some 4 := by decide +kernel
@[simp] theorem ix_keeps : ixOf (fun y => eqD y (D.str (Str.ofString "keeps"))) [.str (Str.ofString "word"), .str (Str.ofString "start"), .str (Str.ofString "share"), .str (Str.ofString "fence"), .str (Str.ofString "kinds"), .str (Str.ofString "keeps")] = some 5 := by decide +kernel
theorem cut_hi' {α : Type} {xs : List α} {i : Int} (h : 0 ≤ i) : cut xs none (some i) = xs.take i.toNat := by
  unfold cut HT.sIx
  simp only [Nat.sub_zero, List.drop_zero]
  split
  · omega
  · by_cases k : i.toNat ≤ xs.length
    · rw [Nat.min_eq_left (by omega)] 
    · rw [Nat.min_eq_right (by omega), List.take_of_length_le (Nat.le_refl _), List.take_of_length_le (by omega)]
theorem cut_lo' {α : Type} {xs : List α} {i : Int} (h : 0 ≤ i) : cut xs (some i) none = xs.drop i.toNat := by
  unfold cut HT.sIx
  simp only []
  rw [if_neg (by omega)]
  by_cases k : i.toNat ≤ xs.length
  · rw [Nat.min_eq_left k, List.take_of_length_le (by rw [List.length_drop]; omega)]
  · rw [Nat.min_eq_right (by omega), List.drop_length, List.drop_of_length_le (by omega)]
    simp
@[simp] theorem cut_hi {α : Type} {xs : List α} {n : Nat} : cut xs none (some (n : Int)) = xs.take n := cut_hi' (by omega)
@[simp] theorem cut_lo {α : Type} {xs : List α} {n : Nat} : cut xs (some (n : Int)) none = xs.drop n := cut_lo' (by omega)
@[simp] theorem cut_lo1 {α : Type} {xs : List α} {n : Nat} : cut xs (some ((n : Int) + 1)) none = xs.drop (n + 1) := cut_lo' (by omega)
@[simp] theorem cut_hi1 {α : Type} {xs : List α} {n : Nat} : cut xs none (some ((n : Int) + 1)) = xs.take (n + 1) := cut_hi' (by omega)
@[simp] theorem cut_0 {α : Type} {xs : List α} : cut xs none (some 0) = [] := cut_hi' (by decide)
@[simp] theorem cut_a1 {α : Type} {xs : List α} : cut xs none (some 1) = xs.take 1 := cut_hi' (by decide)
@[simp] theorem cut_a2 {α : Type} {xs : List α} : cut xs none (some 2) = xs.take 2 := cut_hi' (by decide)
@[simp] theorem cut_a3 {α : Type} {xs : List α} : cut xs none (some 3) = xs.take 3 := cut_hi' (by decide)
@[simp] theorem cut_a4 {α : Type} {xs : List α} : cut xs none (some 4) = xs.take 4 := cut_hi' (by decide)
@[simp] theorem cut_a5 {α : Type} {xs : List α} : cut xs none (some 5) = xs.take 5 := cut_hi' (by decide)
@[simp] theorem cut_b1 {α : Type} {xs : List α} : cut xs (some 1) none = xs.drop 1 := cut_lo' (by decide)
@[simp] theorem cut_b2 {α : Type} {xs : List α} : cut xs (some 2) none = xs.drop 2 := cut_lo' (by decide)
@[simp] theorem cut_b3 {α : Type} {xs : List α} : cut xs (some 3) none = xs.drop 3 := cut_lo' (by decide)
@[simp] theorem cut_b4 {α : Type} {xs : List α} : cut xs (some 4) none = xs.drop 4 := cut_lo' (by decide)
@[simp] theorem cut_b5 {α : Type} {xs : List α} : cut xs (some 5) none = xs.drop 5 := cut_lo' (by decide)
@[simp] theorem cut_b6 {α : Type} {xs : List α} : cut xs (some 6) none = xs.drop 6 := cut_lo' (by decide)
theorem set_cut {α : Type} {xs : List α} {n : Nat} {x : α} (h : n < xs.length) : xs.take n ++ (x :: xs.drop (n + 1)) = xs.set n x := by rw [List.set_eq_take_append_cons_drop, if_pos h]
/-! ### what the package's defs give -/
def S_turned : SV
  | [hd, td], Q, _ => ∃ (h : Hs) (t : Tn), hd = h.d ∧ td = t.d ∧ t.n < h.ways.length ∧ h.ways.length ≤ 1000 ∧ Q (turn h t).d
  | _, _, _ => False
abbrev F_turned : FS := FV S_turned
@[simp] theorem S_turned_s {hd td : D} {Q : D → Prop} {E : Exc → Prop} : S_turned [hd, td] Q E = ∃ (h : Hs) (t : Tn), hd = h.d ∧ td = t.d ∧ t.n < h.ways.length ∧ h.ways.length ≤ 1000 ∧ Q (turn h t).d := (rfl)
def S_houses_along : SV
  | [hd, rd], Q, _ => ∃ (h : Hs) (ts : List Tn), hd = h.d ∧ rd = .tup (ts.map Tn.d) ∧ h.ways.length ≤ 1000 ∧ ts.length ≤ 1000 ∧ (∀ t ∈ ts, t.n < h.ways.length) ∧ Q (.lst ((along h ts).map Hs.d))
  | _, _, _ => False
abbrev F_houses_along : FS := FV S_houses_along
@[simp] theorem S_houses_along_s {hd rd : D} {Q : D → Prop} {E : Exc → Prop} : S_houses_along [hd, rd] Q E = ∃ (h : Hs) (ts : List Tn), hd = h.d ∧ rd = .tup (ts.map Tn.d) ∧ h.ways.length ≤ 1000 ∧ ts.length ≤ 1000 ∧ (∀ t ∈ ts, t.n < h.ways.length) ∧ Q (.lst ((along h ts).map Hs.d)) := (rfl)
theorem flat_ints {l : List Int} : (l.map D.int).all flatD = true := by
  rw [List.all_map]
  exact List.all_eq_true.mpr fun _ _ => rfl
theorem any_ints {l : List Int} {k : Int} : ((l.map D.int).any fun y => eqD y (.int k)) = l.contains k := by
  rw [List.any_map]
  induction l with
  | nil => rfl
  | cons a r ih =>
    rw [List.any_cons, ih, List.contains_cons]
    congr 1
    show (a == k) = (k == a)
    exact Bool.beq_comm
@[simp] theorem flat_opt {o : Option Int} : flatD (optD o) = true := by cases o <;> rfl
@[simp] theorem okD_opt {n : Nat} {o : Option Int} : okD n (optD o) = true := by cases o <;> simp [optD]
theorem eqD_opt {n : Int} {o : Option Int} : eqD (.int n) (optD o) = (o == some n) := by
  cases o with
  | none => rfl
  | some m =>
    show (n == m) = (some m == some n)
    simp [Bool.beq_comm]
theorem non_opt {o : Option Int} : isNon (optD o) = o.isNone := by cases o <;> rfl
@[simp] theorem oIx_w5 {w : Wy} {Qd : D → Prop} : oIx w.d (.int 5) Qd = Qd (.bl w.keeps) := by simp [Wy.d]
@[simp] theorem oIx_h0 {h : Hs} {Qd : D → Prop} : oIx h.d (.int 0) Qd = Qd (.int h.size) := by simp [Hs.d]
@[simp] theorem oIx_h1 {h : Hs} {Qd : D → Prop} : oIx h.d (.int 1) Qd = Qd (.tup (h.ways.map Wy.d)) := by simp [Hs.d]
def S_fits : SV
  | [hd, wd, pd', sd], Q, _ => ∃ (h : Hs) (w : Wy) (p : Pn) (sn : List Int), hd = h.d ∧ wd = w.d ∧ pd' = p.d ∧ sd = intsD sn ∧ (w.word = 0 ∨ w.word = 1) ∧ 0 < h.size ∧ Q (.bl (fitsB h.size w p sn))
  | _, _, _ => False
abbrev F_fits : FS := FV S_fits
@[simp] theorem S_fits_s {hd wd pd' sd : D} {Q : D → Prop} {E : Exc → Prop} : S_fits [hd, wd, pd', sd] Q E = ∃ (h : Hs) (w : Wy) (p : Pn) (sn : List Int), hd = h.d ∧ wd = w.d ∧ pd' = p.d ∧ sd = intsD sn ∧ (w.word = 0 ∨ w.word = 1) ∧ 0 < h.size ∧ Q (.bl (fitsB h.size w p sn)) := (rfl)
def S_seen_at : SV
  | [hd, pd', bd, kd], Q, _ => ∃ (h : Hs) (p : Pn) (bf : List Int) (bk : Option Int), hd = h.d ∧ pd' = p.d ∧ bd = intsD bf ∧ kd = optD bk ∧ (∀ w ∈ h.ways, w.word = 0 ∨ w.word = 1) ∧ 0 < h.size ∧ h.ways.length ≤ 1000 ∧ Q (intsD (seenAt h p bf bk))
  | _, _, _ => False
abbrev F_seen_at : FS := FV S_seen_at
@[simp] theorem S_seen_at_s {hd pd' bd kd : D} {Q : D → Prop} {E : Exc → Prop} : S_seen_at [hd, pd', bd, kd] Q E = ∃ (h : Hs) (p : Pn) (bf : List Int) (bk : Option Int), hd = h.d ∧ pd' = p.d ∧ bd = intsD bf ∧ kd = optD bk ∧ (∀ w ∈ h.ways, w.word = 0 ∨ w.word = 1) ∧ 0 < h.size ∧ h.ways.length ≤ 1000 ∧ Q (intsD (seenAt h p bf bk)) := (rfl)
def S_back_of : SV
  | [td], Q, _ => ∃ t : Tn, td = t.d ∧ Q (optD t.bk)
  | _, _, _ => False
abbrev F_back_of : FS := FV S_back_of
@[simp] theorem S_back_of_s {td : D} {Q : D → Prop} {E : Exc → Prop} : S_back_of [td] Q E = ∃ t : Tn, td = t.d ∧ Q (optD t.bk) := (rfl)
/-- what the walk of a house asks of it -/
def SeeOk (h : Hs) : Prop := (∀ w ∈ h.ways, w.word = 0 ∨ w.word = 1) ∧ 0 < h.size ∧ h.ways.length ≤ 1000
def S_history : SV
  | [hd, rd, pd'], Q, _ => ∃ (h : Hs) (ts : List Tn) (p : Pn), hd = .lst ((along h ts).map Hs.d) ∧ rd = .tup (ts.map Tn.d) ∧ pd' = p.d ∧ (∀ g ∈ along h ts, SeeOk g) ∧ ts.length ≤ 1000 ∧ Q (.lst ((history h p ts).map intsD))
  | _, _, _ => False
abbrev F_history : FS := FV S_history
@[simp] theorem S_history_s {hd rd pd' : D} {Q : D → Prop} {E : Exc → Prop} : S_history [hd, rd, pd'] Q E = ∃ (h : Hs) (ts : List Tn) (p : Pn), hd = .lst ((along h ts).map Hs.d) ∧ rd = .tup (ts.map Tn.d) ∧ pd' = p.d ∧ (∀ g ∈ along h ts, SeeOk g) ∧ ts.length ≤ 1000 ∧ Q (.lst ((history h p ts).map intsD)) := (rfl)
theorem along_head (h : Hs) (ts : List Tn) : ∃ r, along h ts = h :: r := by cases ts <;> exact ⟨_, rfl⟩
/-! ### what is drawn is of the kind -/
theorem isWhole_i {i lo hi : Int} : isWhole (.int i) lo hi = true ↔ lo ≤ i ∧ i ≤ hi := by simp [isWhole]
theorem kinds_ok {l : List Int} (h : l ∈ KS7) : (isRising (.tup (l.map .int)) 2 && !eqD (.tup (l.map .int)) (.tup [])) = true := by
  simp only [KS7, List.mem_cons, List.not_mem_nil, or_false] at h
  rcases h with rfl | rfl | rfl | rfl | rfl | rfl | rfl <;> decide +kernel
theorem fence_ok {f : Option Int} {i : Nat} (h : ∀ x, f = some x → 0 ≤ x ∧ x < i) : (isNon (optD f) || isWhole (optD f) 0 ((i : Int) - 1)) = true := by
  cases f with
  | none => rfl
  | some x =>
    have := h x rfl
    simp [optD, isNon, isWhole]
    omega
theorem way_ok {size : Int} {i : Nat} {w : Wy} (g : GoodW size i w) : isWay size i w.d = true := by
  have h1 : isWhole (.int w.word) 0 1 = true := isWhole_i.mpr (by rcases g.word with e | e <;> rw [e] <;> decide)
  have h2 : isWhole (.int w.start) 0 (size - 1) = true := isWhole_i.mpr (by have := g.start; omega)
  have h3 : isWhole (.int w.share) 0 size = true := isWhole_i.mpr g.share
  have h4 := fence_ok g.fence
  have h5 := kinds_ok g.kinds
  unfold isWay Wy.d
  simp only [List.length_cons, List.length_nil, decide_true, Bool.true_and]
  have r : List.range 6 = [0, 1, 2, 3, 4, 5] := rfl
  simp only [Nat.zero_add, Nat.reduceAdd, decide_true, Bool.true_and, r, List.all_cons, List.all_nil, Bool.and_true]
  simp only [atD, List.getD_cons_zero, List.getD_cons_succ]
  simp only [isPart]
  simp [h1, h2, h3, h5, isBl]
  simpa using h4
theorem house_ok {h : Hs} (g : GoodH h) : hasHouse h.d = true := by
  unfold Hs.d
  have h1 : isWhole (.int h.size) 1 MOST = true := isWhole_i.mpr g.size
  show (isWhole (.int h.size) 1 MOST && isTup _ && _ && _ && _) = true
  simp only [h1, isTup_t, tupL, List.length_map, Bool.true_and, Bool.and_eq_true, decide_eq_true_eq, List.all_eq_true]
  refine ⟨⟨g.many.1, g.many.2⟩, fun i hi => ?_⟩
  simp at hi
  have e : atD (h.ways.map Wy.d) i = (h.ways[i]).d := by simp [atD, hi]
  rw [e]
  exact way_ok (g.ways i _ (List.getElem?_eq_getElem hi))
theorem turning_ok {h : Hs} {t : Tn} (g : GoodH h) (gt : GoodT h t) : isTurning h.size h.ways.length t.d = true := by
  obtain ⟨w, gw⟩ : ∃ w, GoodW h.size t.n w := ⟨_, g.ways t.n _ (List.getElem?_eq_getElem gt.1)⟩
  have gu := gt.2 w gw
  have hn := gt.1
  have h1 : isWhole (.int (t.n : Int)) 0 ((h.ways.length : Int) - 1) = true := isWhole_i.mpr (by omega)
  cases t with
  | word n v =>
    show (isWhole (.int (n : Int)) 0 ((h.ways.length : Int) - 1) && isPart h.size n 0 (.int v)) = true
    rw [show isWhole (.int (n : Int)) 0 ((h.ways.length : Int) - 1) = true from h1]
    have := gu.word
    show isWhole (.int v) 0 1 = true
    exact isWhole_i.mpr (by rcases this with e | e <;> (have e' : v = _ := e; omega))
  | start n v =>
    show (isWhole (.int (n : Int)) 0 ((h.ways.length : Int) - 1) && isPart h.size n 1 (.int v)) = true
    rw [show isWhole (.int (n : Int)) 0 ((h.ways.length : Int) - 1) = true from h1]
    have : 0 ≤ v ∧ v < h.size := gu.start
    show isWhole (.int v) 0 (h.size - 1) = true
    exact isWhole_i.mpr (by omega)
  | share n v =>
    show (isWhole (.int (n : Int)) 0 ((h.ways.length : Int) - 1) && isPart h.size n 2 (.int v)) = true
    rw [show isWhole (.int (n : Int)) 0 ((h.ways.length : Int) - 1) = true from h1]
    show isWhole (.int v) 0 h.size = true
    exact isWhole_i.mpr gu.share
  | fence n v =>
    show (isWhole (.int (n : Int)) 0 ((h.ways.length : Int) - 1) && isPart h.size n 3 (optD v)) = true
    rw [show isWhole (.int (n : Int)) 0 ((h.ways.length : Int) - 1) = true from h1]
    exact fence_ok (i := n) gu.fence
  | kinds n v =>
    show (isWhole (.int (n : Int)) 0 ((h.ways.length : Int) - 1) && isPart h.size n 4 (.tup (v.map .int))) = true
    rw [show isWhole (.int (n : Int)) 0 ((h.ways.length : Int) - 1) = true from h1]
    exact kinds_ok gu.kinds
  | keeps n v =>
    show (isWhole (.int (n : Int)) 0 ((h.ways.length : Int) - 1) && isPart h.size n 5 (.bl v)) = true
    rw [show isWhole (.int (n : Int)) 0 ((h.ways.length : Int) - 1) = true from h1]
    rfl
  | back n =>
    show (isWhole (.int (n : Int)) 0 ((h.ways.length : Int) - 1) && true) = true
    rw [show isWhole (.int (n : Int)) 0 ((h.ways.length : Int) - 1) = true from h1]
    rfl
def GoodR (h : Hs) (ts : List Tn) : Prop := ts.length ≤ 6 ∧ ∀ t ∈ ts, GoodT h t
theorem row_ok {h : Hs} {ts : List Tn} (g : GoodH h) (gr : GoodR h ts) : hasRow h.size h.ways.length (.tup (ts.map Tn.d)) = true := by
  unfold hasRow
  simp only [List.length_map, Bool.and_eq_true, decide_eq_true_eq, List.all_eq_true]
  refine ⟨gr.1, fun d hd => ?_⟩
  obtain ⟨t, ht, rfl⟩ := List.mem_map.mp hd
  exact turning_ok g (gr.2 t ht)
/-! plain data -/
theorem pd_ints {l : List Int} (h : l.length ≤ 1000) : pdB 39 (.tup (l.map .int)) = true := by
  simp only [pdB, List.length_map, Bool.and_eq_true, decide_eq_true_eq, List.all_eq_true]
  refine ⟨h, fun d hd => ?_⟩
  obtain ⟨i, _, rfl⟩ := List.mem_map.mp hd
  rfl
theorem kinds_len {l : List Int} (h : l ∈ KS7) : l.length ≤ 1000 := by
  simp only [KS7, List.mem_cons, List.not_mem_nil, or_false] at h
  rcases h with rfl | rfl | rfl | rfl | rfl | rfl | rfl <;> decide
theorem pdB_opt {n : Nat} {o : Option Int} : pdB n (optD o) = true := by cases o <;> cases n <;> rfl
theorem pd_way {w : Wy} (h : w.kinds.length ≤ 1000) : pdB 38 w.d = true := by
  have e : pdB 37 (.tup (w.kinds.map .int)) = true := by
    simp only [pdB, List.length_map, Bool.and_eq_true, decide_eq_true_eq, List.all_eq_true]
    refine ⟨h, fun d hd => ?_⟩
    obtain ⟨i, _, rfl⟩ := List.mem_map.mp hd
    rfl
  show (decide _ && _) = true
  simp only [List.length_cons, List.length_nil, List.all_cons, List.all_nil, e, pdB_opt, Bool.and_true]
  rfl
theorem pd_house {h : Hs} (g : GoodH h) : pd h.d := by
  have e : pdB 39 (.tup (h.ways.map Wy.d)) = true := by
    simp only [pdB, List.length_map, Bool.and_eq_true, decide_eq_true_eq, List.all_eq_true]
    refine ⟨by have := g.many; omega, fun d hd => ?_⟩
    obtain ⟨w, hw, rfl⟩ := List.mem_map.mp hd
    obtain ⟨i, hi, rfl⟩ := List.mem_iff_getElem.mp hw
    exact pd_way (kinds_len (g.ways i _ (List.getElem?_eq_getElem hi)).kinds)
  show (decide _ && _) = true
  simp only [List.length_cons, List.length_nil, List.all_cons, List.all_nil, e, Bool.and_true]
  rfl
theorem pd_tn {t : Tn} (h : ∀ n v, t = .kinds n v → v.length ≤ 1000) : pdB 39 t.d = true := by
  cases t with
  | kinds n v =>
    have e : pdB 38 (.tup (v.map .int)) = true := by
      simp only [pdB, List.length_map, Bool.and_eq_true, decide_eq_true_eq, List.all_eq_true]
      refine ⟨h n v rfl, fun d hd => ?_⟩
      obtain ⟨i, _, rfl⟩ := List.mem_map.mp hd
      rfl
    show (decide _ && _) = true
    simp only [List.all_cons, List.all_nil, e, Bool.and_true]
    simp [pdB]
  | fence n v =>
    show (decide _ && _) = true
    simp only [List.all_cons, List.all_nil, pdB_opt, Bool.and_true]
    simp [pdB]
  | _ => show (decide _ && _) = true; simp only [List.all_cons, List.all_nil, Bool.and_true]; simp [pdB]
theorem GoodH.see {h : Hs} (g : GoodH h) : SeeOk h := ⟨fun w hw => by
  obtain ⟨i, hi, rfl⟩ := List.mem_iff_getElem.mp hw
  exact (g.ways i _ (List.getElem?_eq_getElem hi)).word, by have := g.size; omega, by have := g.many; omega⟩
theorem along_good : ∀ {ts : List Tn} {h : Hs}, GoodH h → (∀ t ∈ ts, GoodT h t) → ∀ k ∈ along h ts, GoodH k
  | [], h, g, _, k, hk => by
    simp only [along, List.mem_singleton] at hk
    rw [hk]
    exact g
  | t :: ts, h, g, gt, k, hk => by
    simp only [along, List.mem_cons] at hk
    rcases hk with rfl | hk
    · exact g
    · exact along_good (g.turn (gt t List.mem_cons_self)) (fun u hu => (gt u (List.mem_cons_of_mem _ hu)).turn) k hk
theorem along_last : ∀ (ts : List Tn) (h : Hs), (along h ts).getLast? = some (behind h ts)
  | [], h => rfl
  | t :: ts, h => by
    obtain ⟨r, e⟩ := along_head (turn h t) ts
    have ih := along_last ts (turn h t)
    rw [e] at ih
    show (h :: along (turn h t) ts).getLast? = some (behind (turn h t) ts)
    rw [e, List.getLast?_cons_cons]
    exact ih
def S_seen : SV
  | [hd, rd, pe], Q, E => ∃ h : Hs, hd = h.d ∧ GoodH h ∧ ((pd rd ∧ hasRow h.size h.ways.length rd = false ∧ E ⟨"InvalidRow", none⟩) ∨
      ∃ ts : List Tn, rd = .tup (ts.map Tn.d) ∧ pd rd ∧ GoodR h ts ∧ pd pe ∧ ((hasPerson h.size pe = false ∧ E ⟨"InvalidPerson", none⟩) ∨ ∃ p : Pn, pe = p.d ∧ hasPerson h.size pe = true ∧ Q (.tup ((history h p ts).map intsD))))
  | _, _, _ => False
abbrev F_seen : FS := FV S_seen
@[simp] theorem S_seen_s {hd rd pe : D} {Q : D → Prop} {E : Exc → Prop} : S_seen [hd, rd, pe] Q E = ∃ h : Hs, hd = h.d ∧ GoodH h ∧ ((pd rd ∧ hasRow h.size h.ways.length rd = false ∧ E ⟨"InvalidRow", none⟩) ∨
      ∃ ts : List Tn, rd = .tup (ts.map Tn.d) ∧ pd rd ∧ GoodR h ts ∧ pd pe ∧ ((hasPerson h.size pe = false ∧ E ⟨"InvalidPerson", none⟩) ∨ ∃ p : Pn, pe = p.d ∧ hasPerson h.size pe = true ∧ Q (.tup ((history h p ts).map intsD)))) := rfl
def S_house_behind : SV
  | [hd, rd], Q, E => ∃ h : Hs, hd = h.d ∧ GoodH h ∧ ((pd rd ∧ hasRow h.size h.ways.length rd = false ∧ E ⟨"InvalidRow", none⟩) ∨ ∃ ts : List Tn, rd = .tup (ts.map Tn.d) ∧ pd rd ∧ GoodR h ts ∧ Q (behind h ts).d)
  | _, _, _ => False
abbrev F_house_behind : FS := FV S_house_behind
@[simp] theorem S_house_behind_s {hd rd : D} {Q : D → Prop} {E : Exc → Prop} : S_house_behind [hd, rd] Q E = ∃ h : Hs, hd = h.d ∧ GoodH h ∧ ((pd rd ∧ hasRow h.size h.ways.length rd = false ∧ E ⟨"InvalidRow", none⟩) ∨ ∃ ts : List Tn, rd = .tup (ts.map Tn.d) ∧ pd rd ∧ GoodR h ts ∧ Q (behind h ts).d) := (rfl)
/-! ### the law's own defs -/
def PLD' : D := .lst [.str (Str.ofString "word"), .str (Str.ofString "start"), .str (Str.ofString "share"), .str (Str.ofString "fence"), .str (Str.ofString "kinds"), .str (Str.ofString "keeps")]
def S_law_part_names : SV
  | [], Q, _ => Q PLD'
  | _, _, _ => False
abbrev F_law_part_names : FS := FV S_law_part_names
@[simp] theorem S_law_part_names_s {Q : D → Prop} {E : Exc → Prop} : S_law_part_names [] Q E = Q PLD' := (rfl)
abbrev F_law_turned : FS := FV S_turned
def S_law_behind : SV
  | [hd, rd], Q, _ => ∃ (h : Hs) (ts : List Tn), hd = h.d ∧ rd = .tup (ts.map Tn.d) ∧ h.ways.length ≤ 1000 ∧ (∀ t ∈ ts, t.n < h.ways.length) ∧ Q (behind h ts).d
  | _, _, _ => False
abbrev F_law_behind : FS := FV S_law_behind
@[simp] theorem S_law_behind_s {hd rd : D} {Q : D → Prop} {E : Exc → Prop} : S_law_behind [hd, rd] Q E = ∃ (h : Hs) (ts : List Tn), hd = h.d ∧ rd = .tup (ts.map Tn.d) ∧ h.ways.length ≤ 1000 ∧ (∀ t ∈ ts, t.n < h.ways.length) ∧ Q (behind h ts).d := (rfl)
def hasB (size start share number : Int) : Bool := decide (start ≤ number) && decide (number < start + share) || decide (start ≤ number + size) && decide (number + size < start + share)
def S_law_has : SV
  | [.int sz, .int st, .int sh, .int nu], Q, _ => Q (.bl (hasB sz st sh nu))
  | _, _, _ => False
abbrev F_law_has : FS := FV S_law_has
@[simp] theorem S_law_has_s {size start share number : Int} {Q : D → Prop} {E : Exc → Prop} : S_law_has [.int size, .int start, .int share, .int number] Q E = Q (.bl (hasB size start share number)) := (rfl)
theorem has_mod {size start share number : Int} (h1 : 0 ≤ start ∧ start < size) (h2 : 0 ≤ share ∧ share ≤ size) (h3 : 0 ≤ number ∧ number < size) : hasB size start share number = decide ((number - start) % size < share) := by
  by_cases q : start ≤ number
  · have e : (number - start) % size = number - start := Int.emod_eq_of_lt (by omega) (by omega)
    rw [e]
    unfold hasB
    rw [Bool.eq_iff_iff]
    simp
    omega
  · have e : (number - start) % size = number - start + size := by
      rw [← Int.add_emod_right, Int.emod_eq_of_lt (by omega) (by omega)]
    rw [e]
    unfold hasB
    rw [Bool.eq_iff_iff]
    simp
    omega
@[simp] theorem ixN_n {n i : Nat} : ixN n (i : Int) = if i < n then some i else none := by
  unfold ixN
  by_cases h : i < n
  · rw [if_pos (by omega), if_pos (by omega), if_pos h]
    rfl
  · rw [if_pos (by omega), if_neg (by omega), if_neg h]
@[simp] theorem ixN_0 {n : Nat} : ixN (n + 1) 0 = some 0 := by
  have := ixN_n (n := n + 1) (i := 0)
  simpa using this
structure NowOk (h : Hs) (p : Pn) : Prop where
  ways : ∀ w ∈ h.ways, (w.word = 0 ∨ w.word = 1) ∧ (0 ≤ w.start ∧ w.start < h.size) ∧ 0 ≤ w.share ∧ w.share ≤ h.size
  len : h.ways.length ≤ 1000
  a : 0 ≤ p.a ∧ p.a < h.size
  b : 0 ≤ p.b ∧ p.b < h.size
def S_law_now : SV
  | [hd, pe, bd, kd], Q, _ => ∃ (h : Hs) (p : Pn) (bf : List Int) (bk : Option Int), hd = h.d ∧ pe = p.d ∧ bd = intsD bf ∧ kd = optD bk ∧ NowOk h p ∧ Q (intsD (seenAt h p bf bk))
  | _, _, _ => False
abbrev F_law_now : FS := FV S_law_now
@[simp] theorem S_law_now_s {hd pe bd kd : D} {Q : D → Prop} {E : Exc → Prop} : S_law_now [hd, pe, bd, kd] Q E = ∃ (h : Hs) (p : Pn) (bf : List Int) (bk : Option Int), hd = h.d ∧ pe = p.d ∧ bd = intsD bf ∧ kd = optD bk ∧ NowOk h p ∧ Q (intsD (seenAt h p bf bk)) := (rfl)
def S_law_seen : SV
  | [hd, rd, pe], Q, _ => ∃ (h : Hs) (ts : List Tn) (p : Pn), hd = h.d ∧ rd = .tup (ts.map Tn.d) ∧ pe = p.d ∧ (∀ k ∈ along h ts, NowOk k p) ∧ (∀ t ∈ ts, t.n < h.ways.length) ∧ ts.length ≤ 1000 ∧ Q (.tup ((history h p ts).map intsD))
  | _, _, _ => False
abbrev F_law_seen : FS := FV S_law_seen
@[simp] theorem S_law_seen_s {hd rd pe : D} {Q : D → Prop} {E : Exc → Prop} : S_law_seen [hd, rd, pe] Q E = ∃ (h : Hs) (ts : List Tn) (p : Pn), hd = h.d ∧ rd = .tup (ts.map Tn.d) ∧ pe = p.d ∧ (∀ k ∈ along h ts, NowOk k p) ∧ (∀ t ∈ ts, t.n < h.ways.length) ∧ ts.length ≤ 1000 ∧ Q (.tup ((history h p ts).map intsD)) := (rfl)
end TS
set_option Elab.async false
set_option linter.all false
set_option maxRecDepth 100000
set_option maxHeartbeats 1000000
set_option exponentiation.threshold 10000
namespace TS
open PySem PySem.Spec PyProof.Rows L2
/-! # laws of defs that draw from a list lent to them -/
abbrev SB := List D → List D → (D → Sl → Prop) → (Exc → Sl → Prop) → Prop
def FB (S : SB) : FS := fun as Q E => ∃ m ds, as = .brw m :: vals ds ∧ S m ds (fun d s => Q d (s :: vals ds)) (fun x s => E x (s :: vals ds))
theorem FB_s {S : SB} {m ds : List D} {Q : D → List Sl → Prop} {E : EQ} : FB S (.brw m :: vals ds) Q E = S m ds (fun d s => Q d (s :: vals ds)) (fun x s => E x (s :: vals ds)) := by
  apply propext
  constructor
  · rintro ⟨m1, ds1, e, h⟩
    injection e with e1 e2
    injection e1 with e1
    have e3 := vals_inj e2
    subst e1 e3
    exact h
  · exact fun h => ⟨m, ds, rfl, h⟩
theorem exit_brw {m : List D} {ds : List D} {ρ : Rho} : exitR (.brw m :: vals ds) ρ = slAt ρ 0 :: vals ds := by
  apply List.ext_getElem?
  intro i
  unfold exitR vals
  rw [List.getElem?_mapIdx]
  cases i with
  | zero => rfl
  | succ i =>
    simp only [List.getElem?_cons_succ, List.getElem?_map]
    cases ds[i]? <;> rfl
theorem noOwn_brw {m ds : List D} : NoOwn (.brw m :: vals ds) := fun i xs e => by
  cases i with
  | zero => cases e
  | succ i => exact noOwn_vals i xs e
theorem Body.b {t : DS} {n m : Nat} {S : SB} (h : ∀ b ds Q E, S b ds Q E → ds.length + 1 = m ∧ t { nx := fun ρ => Q .non (slAt ρ 0), rt := fun d ρ => Q d (slAt ρ 0) } (fun x ρ => E x (slAt ρ 0)) (entR (.brw b :: vals ds) n)) : Body t n m (FB S) := by
  rintro as Qd Ed ⟨b, ds, rfl, hS⟩
  obtain ⟨h1, h2⟩ := h b ds _ _ hS
  refine ⟨by unfold vals; rw [List.length_cons, List.length_map]; exact h1, noOwn_brw, ?_⟩
  simp only [exit_brw]
  exact h2
theorem cons_brw {m m' : List D} {r : List Sl} : (Sl.brw m :: r = .brw m' :: r) ↔ m = m' := ⟨fun e => by injection e with e; injection e, fun e => by rw [e]⟩
@[simp] theorem dCallR_b {n : Nat} {S : SB} {i : Nat} {t : DA} {ρ : Rho} {Q : D → Rho → Prop} {E : EQ} : dCallR n (FB S) i t ρ Q E = ((∃ ds0, heldAt ρ i = some ds0) ∧ t ρ (fun ds ρ1 => ds.length + 1 = n ∧ ∃ m, heldAt ρ1 i = some m ∧
    S m ds (fun d s => ∃ m', s = .brw m' ∧ Q d (putAt ρ1 i m')) (fun x s => ∃ m', s = .brw m' ∧ E x (putAt ρ1 i m'))) E) := by
  rw [dCallR_s]
  simp only [FB_s, List.cons.injEq, and_true]
@[simp] theorem FB_0 {S : SB} {m : List D} {Q : D → List Sl → Prop} {E : EQ} : FB S [.brw m] Q E = S m [] (fun d s => Q d [s]) (fun x s => E x [s]) := FB_s (ds := [])
@[simp] theorem FB_1 {S : SB} {m : List D} {d1 : D} {Q : D → List Sl → Prop} {E : EQ} : FB S [.brw m, .val d1] Q E = S m [d1] (fun d s => Q d [s, .val d1]) (fun x s => E x [s, .val d1]) := FB_s (ds := [d1])
@[simp] theorem FB_2 {S : SB} {m : List D} {d1 d2 : D} {Q : D → List Sl → Prop} {E : EQ} : FB S [.brw m, .val d1, .val d2] Q E = S m [d1, d2] (fun d s => Q d [s, .val d1, .val d2]) (fun x s => E x [s, .val d1, .val d2]) := FB_s (ds := [d1, d2])
/-! ### drawing -/
/-- a vat that can be drawn from -/
def Vat (m : List D) : Prop := ∃ a b : Int, m = [.int a, .int b] ∧ 0 ≤ a ∧ 0 ≤ b
def S_law_under : SB
  | m, [.int many], Q, _ => Vat m ∧ (0 < many ∧ many ≤ 10000000000000000000000000000000000000000) ∧ ∀ (r : Int) m', 0 ≤ r → r < many → Vat m' → Q (.int r) (.brw m')
  | _, _, _, _ => False
abbrev F_law_under : FS := FB S_law_under
@[simp] theorem S_law_under_s {m : List D} {many : Int} {Q : D → Sl → Prop} {E : Exc → Sl → Prop} : S_law_under m [.int many] Q E = (Vat m ∧ (0 < many ∧ many ≤ 10000000000000000000000000000000000000000) ∧ ∀ (r : Int) m', 0 ≤ r → r < many → Vat m' → Q (.int r) (.brw m')) := (rfl)
def S_law_some : SB
  | m, [.lst xs], Q, _ => Vat m ∧ (xs ≠ [] ∧ xs.length ≤ 1000) ∧ ∀ x ∈ xs, ∀ m', Vat m' → Q x (.brw m')
  | _, _, _, _ => False
abbrev F_law_some : FS := FB S_law_some
@[simp] theorem S_law_some_s {m xs : List D} {Q : D → Sl → Prop} {E : Exc → Sl → Prop} : S_law_some m [.lst xs] Q E = (Vat m ∧ (xs ≠ [] ∧ xs.length ≤ 1000) ∧ ∀ x ∈ xs, ∀ m', Vat m' → Q x (.brw m')) := (rfl)
def kindSets : List (List Int) := [[0, 1, 2], [0], [1], [0, 2], [1, 2]]
theorem kindSets_sub {k : List Int} (h : k ∈ kindSets) : k ∈ KS7 := by
  simp only [kindSets, List.mem_cons, List.not_mem_nil, or_false] at h
  rcases h with rfl | rfl | rfl | rfl | rfl <;> decide
def S_law_kinds : SB
  | m, [], Q, _ => Vat m ∧ ∀ k ∈ kindSets, ∀ m', Vat m' → Q (.tup (k.map .int)) (.brw m')
  | _, _, _, _ => False
abbrev F_law_kinds : FS := FB S_law_kinds
@[simp] theorem S_law_kinds_s {m : List D} {Q : D → Sl → Prop} {E : Exc → Sl → Prop} : S_law_kinds m [] Q E = (Vat m ∧ ∀ k ∈ kindSets, ∀ m', Vat m' → Q (.tup (k.map .int)) (.brw m')) := (rfl)
def S_law_house : SB
  | m, [.int most], Q, _ => Vat m ∧ (1 ≤ most ∧ most ≤ 1000000000000000000000000000000) ∧ ∀ h : Hs, GoodH h → h.size ≤ most → ∀ m', Vat m' → Q h.d (.brw m')
  | _, _, _, _ => False
abbrev F_law_house : FS := FB S_law_house
@[simp] theorem S_law_house_s {m : List D} {most : Int} {Q : D → Sl → Prop} {E : Exc → Sl → Prop} : S_law_house m [.int most] Q E = (Vat m ∧ (1 ≤ most ∧ most ≤ 1000000000000000000000000000000) ∧ ∀ h : Hs, GoodH h → h.size ≤ most → ∀ m', Vat m' → Q h.d (.brw m')) := (rfl)
def S_law_turning : SB
  | m, [hd], Q, _ => ∃ h : Hs, hd = h.d ∧ GoodH h ∧ h.size ≤ 1000000000000000000000000000000 ∧ Vat m ∧ ∀ t, GoodT h t → ∀ m', Vat m' → Q t.d (.brw m')
  | _, _, _, _ => False
abbrev F_law_turning : FS := FB S_law_turning
@[simp] theorem S_law_turning_s {m : List D} {hd : D} {Q : D → Sl → Prop} {E : Exc → Sl → Prop} : S_law_turning m [hd] Q E = ∃ h : Hs, hd = h.d ∧ GoodH h ∧ h.size ≤ 1000000000000000000000000000000 ∧ Vat m ∧ ∀ t, GoodT h t → ∀ m', Vat m' → Q t.d (.brw m') := (rfl)
def S_law_row : SB
  | m, [hd, .int most], Q, _ => ∃ h : Hs, hd = h.d ∧ GoodH h ∧ h.size ≤ 1000000000000000000000000000000 ∧ Vat m ∧ (0 ≤ most ∧ most ≤ 100) ∧ ∀ ts : List Tn, (ts.length : Int) ≤ most → (∀ t ∈ ts, GoodT h t) → ∀ m', Vat m' → Q (.tup (ts.map Tn.d)) (.brw m')
  | _, _, _, _ => False
abbrev F_law_row : FS := FB S_law_row
@[simp] theorem S_law_row_s {m : List D} {hd : D} {most : Int} {Q : D → Sl → Prop} {E : Exc → Sl → Prop} : S_law_row m [hd, .int most] Q E = ∃ h : Hs, hd = h.d ∧ GoodH h ∧ h.size ≤ 1000000000000000000000000000000 ∧ Vat m ∧ (0 ≤ most ∧ most ≤ 100) ∧ ∀ ts : List Tn, (ts.length : Int) ≤ most → (∀ t ∈ ts, GoodT h t) → ∀ m', Vat m' → Q (.tup (ts.map Tn.d)) (.brw m') := (rfl)
end TS
set_option Elab.async false
set_option linter.all false
set_option maxRecDepth 100000
set_option maxHeartbeats 1000000
set_option exponentiation.threshold 10000
/-! readings are monotone: invariants of loops and comprehensions -/
namespace TS
open PySem PySem.Spec PyProof.Rows L2
class MO (f : O2) : Prop where
  m : ∀ (x y : D) (Q Q' : D → Prop), (∀ d, Q d → Q' d) → f x y Q → f x y Q'
class MC (f : OC) : Prop where
  m : ∀ (xs : List D) (Q Q' : D → Prop), (∀ d, Q d → Q' d) → f xs Q → f xs Q'
class MU (f : D → (D → Prop) → Prop) : Prop where
  m : ∀ (x : D) (Q Q' : D → Prop), (∀ d, Q d → Q' d) → f x Q → f x Q'
class MF (F : FS) : Prop where
  m : ∀ (as : List Sl) (Q Q' : D → List Sl → Prop) (E E' : EQ), (∀ d s, Q d s → Q' d s) → (∀ x s, E x s → E' x s) → F as Q E → F as Q' E'
class MSV (S : SV) : Prop where
  m : ∀ (ds : List D) (Q Q' : D → Prop) (E E' : Exc → Prop), (∀ d, Q d → Q' d) → (∀ x, E x → E' x) → S ds Q E → S ds Q' E'
class MSB (S : SB) : Prop where
  m : ∀ (b ds : List D) (Q Q' : D → Sl → Prop) (E E' : Exc → Sl → Prop), (∀ d s, Q d s → Q' d s) → (∀ x s, E x s → E' x s) → S b ds Q E → S b ds Q' E'
class ME (t : DE) : Prop where
  m : ∀ (ρ : Rho) (Q Q' : D → Rho → Prop) (E E' : EQ), (∀ d s, Q d s → Q' d s) → (∀ x s, E x s → E' x s) → t ρ Q E → t ρ Q' E'
class MT (t : DT) : Prop where
  m : ∀ (ρ : Rho) (Q Q' : Bool → Rho → Prop) (E E' : EQ), (∀ d s, Q d s → Q' d s) → (∀ x s, E x s → E' x s) → t ρ Q E → t ρ Q' E'
class MA (t : DA) : Prop where
  m : ∀ (ρ : Rho) (Q Q' : List D → Rho → Prop) (E E' : EQ), (∀ d s, Q d s → Q' d s) → (∀ x s, E x s → E' x s) → t ρ Q E → t ρ Q' E'
class MOp (t : DO) : Prop where
  m : ∀ (ρ : Rho) (Q Q' : Option Int → Rho → Prop) (E E' : EQ), (∀ d s, Q d s → Q' d s) → (∀ x s, E x s → E' x s) → t ρ Q E → t ρ Q' E'
class MG (g : DG) : Prop where
  m : ∀ (d : D) (ρ : Rho) (Q Q' : Rho → Prop), (∀ s, Q s → Q' s) → g d ρ Q → g d ρ Q'
class MGs (g : DGs) : Prop where
  m : ∀ (d : List D) (ρ : Rho) (Q Q' : Rho → Prop), (∀ s, Q s → Q' s) → g d ρ Q → g d ρ Q'
structure BLe (B B' : DEnds) : Prop where
  nx : ∀ s, B.nx s → B'.nx s
  rt : ∀ d s, B.rt d s → B'.rt d s
  bk : ∀ s, B.bk s → B'.bk s
  ct : ∀ s, B.ct s → B'.ct s
class MS (t : DS) : Prop where
  m : ∀ (B B' : DEnds) (E E' : EQ) (ρ : Rho), BLe B B' → (∀ x s, E x s → E' x s) → t B E ρ → t B' E' ρ
/-- same exceptions -/
abbrev idE {E : EQ} : ∀ x s, E x s → E x s := fun _ _ h => h
/-! ### operators -/
instance {C : Int → Int → Prop} {g : Int → Int → D} : MO (oInt C g) := ⟨by (intro x y Q Q' hq h; cases x <;> cases y <;> first | exact h.elim | exact hq _ h | exact ⟨h.1, hq _ h.2⟩ | (obtain ⟨d, h1, h2⟩ := h; exact ⟨d, h1, hq _ h2⟩) | (obtain ⟨d, h1, h3, h2⟩ := h; exact ⟨d, h1, h3, hq _ h2⟩))⟩
instance : MO oAdd := ⟨by (intro x y Q Q' hq h; cases x <;> cases y <;> first | exact h.elim | exact hq _ h | exact ⟨h.1, hq _ h.2⟩ | (obtain ⟨d, h1, h2⟩ := h; exact ⟨d, h1, hq _ h2⟩) | (obtain ⟨d, h1, h3, h2⟩ := h; exact ⟨d, h1, h3, hq _ h2⟩))⟩
instance : MO oSub := inferInstanceAs (MO (oInt _ _))
instance : MO oMulI := inferInstanceAs (MO (oInt _ _))
instance : MO oMod := inferInstanceAs (MO (oInt _ _))
instance : MO oDiv := inferInstanceAs (MO (oInt _ _))
instance : MO oPow := inferInstanceAs (MO (oInt _ _))
instance : MO oLt := inferInstanceAs (MO (oInt _ _))
instance : MO oLe := inferInstanceAs (MO (oInt _ _))
instance : MO oGt := inferInstanceAs (MO (oInt _ _))
instance : MO oGe := inferInstanceAs (MO (oInt _ _))
instance : MO oEq := ⟨fun x y Q Q' hq h => ⟨h.1, hq _ h.2⟩⟩
instance : MO oNe := ⟨fun x y Q Q' hq h => ⟨h.1, hq _ h.2⟩⟩
instance : MO oIsN := ⟨by (intro x y Q Q' hq h; cases x <;> cases y <;> first | exact h.elim | exact hq _ h | exact ⟨h.1, hq _ h.2⟩ | (obtain ⟨d, h1, h2⟩ := h; exact ⟨d, h1, hq _ h2⟩) | (obtain ⟨d, h1, h3, h2⟩ := h; exact ⟨d, h1, h3, hq _ h2⟩))⟩
instance : MO oNotN := ⟨by (intro x y Q Q' hq h; cases x <;> cases y <;> first | exact h.elim | exact hq _ h | exact ⟨h.1, hq _ h.2⟩ | (obtain ⟨d, h1, h2⟩ := h; exact ⟨d, h1, hq _ h2⟩) | (obtain ⟨d, h1, h3, h2⟩ := h; exact ⟨d, h1, h3, hq _ h2⟩))⟩
instance : MO oIn := ⟨by (intro x y Q Q' hq h; cases x <;> cases y <;> first | exact h.elim | exact hq _ h | exact ⟨h.1, hq _ h.2⟩ | (obtain ⟨d, h1, h2⟩ := h; exact ⟨d, h1, hq _ h2⟩) | (obtain ⟨d, h1, h3, h2⟩ := h; exact ⟨d, h1, h3, hq _ h2⟩))⟩
instance : MO oNotIn := ⟨by (intro x y Q Q' hq h; cases x <;> cases y <;> first | exact h.elim | exact hq _ h | exact ⟨h.1, hq _ h.2⟩ | (obtain ⟨d, h1, h2⟩ := h; exact ⟨d, h1, hq _ h2⟩) | (obtain ⟨d, h1, h3, h2⟩ := h; exact ⟨d, h1, h3, hq _ h2⟩))⟩
instance : MO oInL := ⟨by (intro x y Q Q' hq h; cases x <;> cases y <;> first | exact h.elim | exact hq _ h | exact ⟨h.1, hq _ h.2⟩ | (obtain ⟨d, h1, h2⟩ := h; exact ⟨d, h1, hq _ h2⟩) | (obtain ⟨d, h1, h3, h2⟩ := h; exact ⟨d, h1, h3, hq _ h2⟩))⟩
instance : MO oNotInL := ⟨by (intro x y Q Q' hq h; cases x <;> cases y <;> first | exact h.elim | exact hq _ h | exact ⟨h.1, hq _ h.2⟩ | (obtain ⟨d, h1, h2⟩ := h; exact ⟨d, h1, hq _ h2⟩) | (obtain ⟨d, h1, h3, h2⟩ := h; exact ⟨d, h1, h3, hq _ h2⟩))⟩
instance : MO oIx := ⟨by (intro x y Q Q' hq h; cases x <;> cases y <;> first | exact h.elim | exact hq _ h | exact ⟨h.1, hq _ h.2⟩ | (obtain ⟨d, h1, h2⟩ := h; exact ⟨d, h1, hq _ h2⟩) | (obtain ⟨d, h1, h3, h2⟩ := h; exact ⟨d, h1, h3, hq _ h2⟩))⟩
instance : MO oRep := ⟨by (intro x y Q Q' hq h; cases x <;> cases y <;> first | exact h.elim | exact hq _ h | exact ⟨h.1, hq _ h.2⟩ | (obtain ⟨d, h1, h2⟩ := h; exact ⟨d, h1, hq _ h2⟩) | (obtain ⟨d, h1, h3, h2⟩ := h; exact ⟨d, h1, h3, hq _ h2⟩))⟩
instance : MU oNeg := ⟨fun x Q Q' hq h => by cases x <;> first | exact h.elim | exact hq _ h⟩
instance : MC fLen := ⟨by (intro xs Q Q' hq h; revert h; (first | unfold fLen | unfold fInt | unfold fAbs | unfold fMax2 | unfold fMin2 | unfold fStrI | unfold fTuple | unfold fList | unfold fSum | unfold fIsi); split <;> intro h <;> first | exact h.elim | exact hq _ h | exact ⟨h.1, hq _ h.2⟩ | (obtain ⟨d, h1, h2⟩ := h; exact ⟨d, h1, hq _ h2⟩))⟩
instance : MC fInt := ⟨by (intro xs Q Q' hq h; revert h; (first | unfold fLen | unfold fInt | unfold fAbs | unfold fMax2 | unfold fMin2 | unfold fStrI | unfold fTuple | unfold fList | unfold fSum | unfold fIsi); split <;> intro h <;> first | exact h.elim | exact hq _ h | exact ⟨h.1, hq _ h.2⟩ | (obtain ⟨d, h1, h2⟩ := h; exact ⟨d, h1, hq _ h2⟩))⟩
instance : MC fAbs := ⟨by (intro xs Q Q' hq h; revert h; (first | unfold fLen | unfold fInt | unfold fAbs | unfold fMax2 | unfold fMin2 | unfold fStrI | unfold fTuple | unfold fList | unfold fSum | unfold fIsi); split <;> intro h <;> first | exact h.elim | exact hq _ h | exact ⟨h.1, hq _ h.2⟩ | (obtain ⟨d, h1, h2⟩ := h; exact ⟨d, h1, hq _ h2⟩))⟩
instance : MC fMax2 := ⟨by (intro xs Q Q' hq h; revert h; (first | unfold fLen | unfold fInt | unfold fAbs | unfold fMax2 | unfold fMin2 | unfold fStrI | unfold fTuple | unfold fList | unfold fSum | unfold fIsi); split <;> intro h <;> first | exact h.elim | exact hq _ h | exact ⟨h.1, hq _ h.2⟩ | (obtain ⟨d, h1, h2⟩ := h; exact ⟨d, h1, hq _ h2⟩))⟩
instance : MC fMin2 := ⟨by (intro xs Q Q' hq h; revert h; (first | unfold fLen | unfold fInt | unfold fAbs | unfold fMax2 | unfold fMin2 | unfold fStrI | unfold fTuple | unfold fList | unfold fSum | unfold fIsi); split <;> intro h <;> first | exact h.elim | exact hq _ h | exact ⟨h.1, hq _ h.2⟩ | (obtain ⟨d, h1, h2⟩ := h; exact ⟨d, h1, hq _ h2⟩))⟩
instance : MC fStrI := ⟨by (intro xs Q Q' hq h; revert h; (first | unfold fLen | unfold fInt | unfold fAbs | unfold fMax2 | unfold fMin2 | unfold fStrI | unfold fTuple | unfold fList | unfold fSum | unfold fIsi); split <;> intro h <;> first | exact h.elim | exact hq _ h | exact ⟨h.1, hq _ h.2⟩ | (obtain ⟨d, h1, h2⟩ := h; exact ⟨d, h1, hq _ h2⟩))⟩
instance : MC fTuple := ⟨by (intro xs Q Q' hq h; revert h; (first | unfold fLen | unfold fInt | unfold fAbs | unfold fMax2 | unfold fMin2 | unfold fStrI | unfold fTuple | unfold fList | unfold fSum | unfold fIsi); split <;> intro h <;> first | exact h.elim | exact hq _ h | exact ⟨h.1, hq _ h.2⟩ | (obtain ⟨d, h1, h2⟩ := h; exact ⟨d, h1, hq _ h2⟩))⟩
instance : MC fList := ⟨by (intro xs Q Q' hq h; revert h; (first | unfold fLen | unfold fInt | unfold fAbs | unfold fMax2 | unfold fMin2 | unfold fStrI | unfold fTuple | unfold fList | unfold fSum | unfold fIsi); split <;> intro h <;> first | exact h.elim | exact hq _ h | exact ⟨h.1, hq _ h.2⟩ | (obtain ⟨d, h1, h2⟩ := h; exact ⟨d, h1, hq _ h2⟩))⟩
instance : MC fSum := ⟨by (intro xs Q Q' hq h; revert h; (first | unfold fLen | unfold fInt | unfold fAbs | unfold fMax2 | unfold fMin2 | unfold fStrI | unfold fTuple | unfold fList | unfold fSum | unfold fIsi); split <;> intro h <;> first | exact h.elim | exact hq _ h | exact ⟨h.1, hq _ h.2⟩ | (obtain ⟨d, h1, h2⟩ := h; exact ⟨d, h1, hq _ h2⟩))⟩
instance : MC fIsi := ⟨by (intro xs Q Q' hq h; revert h; (first | unfold fLen | unfold fInt | unfold fAbs | unfold fMax2 | unfold fMin2 | unfold fStrI | unfold fTuple | unfold fList | unfold fSum | unfold fIsi); split <;> intro h <;> first | exact h.elim | exact hq _ h | exact ⟨h.1, hq _ h.2⟩ | (obtain ⟨d, h1, h2⟩ := h; exact ⟨d, h1, hq _ h2⟩))⟩
instance {S : SV} [M : MSV S] : MF (FV S) := ⟨fun as Q Q' E E' hq hx ⟨ds, e, h⟩ => ⟨ds, e, M.m ds _ _ _ _ (fun d => hq d as) (fun x => hx x as) h⟩⟩
instance {S : SB} [M : MSB S] : MF (FB S) := ⟨fun as Q Q' E E' hq hx ⟨m, ds, e, h⟩ => ⟨m, ds, e, M.m m ds _ _ _ _ (fun d s => hq d _) (fun x s => hx x _) h⟩⟩
/-! ### expressions -/
instance {i : Nat} : ME (dVar i) := ⟨fun ρ Q Q' E E' hq hx h => by
  rw [dVar_s] at h ⊢
  cases e : slAt ρ i <;> rw [e] at h <;> first | exact h.elim | exact hq _ _ h⟩
instance {d : D} : ME (dC d) := ⟨fun ρ Q Q' E E' hq hx h => hq _ _ h⟩
instance : MA aNil := ⟨fun ρ Q Q' E E' hq hx h => hq _ _ h⟩
instance {t : DE} {u : DA} [M : ME t] [N : MA u] : MA (aCons t u) := ⟨fun ρ Q Q' E E' hq hx h => M.m ρ _ _ _ _ (fun d s => N.m s _ _ _ _ (fun ds s => hq _ s) hx) hx h⟩
instance {t : DA} [M : MA t] : ME (dTupL t) := ⟨fun ρ Q Q' E E' hq hx h => M.m ρ _ _ _ _ (fun d s h => ⟨h.1, hq _ s h.2⟩) hx h⟩
instance {t : DA} [M : MA t] : MA (nLst t) := ⟨fun ρ Q Q' E E' hq hx h => M.m ρ _ _ _ _ (fun d s h => ⟨h.1, hq _ s h.2⟩) hx h⟩
instance {t : DA} [M : MA t] : ME (dOfN t) := ⟨fun ρ Q Q' E E' hq hx h => M.m ρ _ _ _ _ (fun d s h => hq _ s h) hx h⟩
instance {f : O2} {a b : DE} [O : MO f] [M : ME a] [N : ME b] : ME (dOp f a b) := ⟨fun ρ Q Q' E E' hq hx h => M.m ρ _ _ _ _ (fun x s => N.m s _ _ _ _ (fun y s => O.m x y _ _ fun z => hq z s) hx) hx h⟩
instance {f : OC} {a : DA} [O : MC f] [M : MA a] : ME (dCB f a) := ⟨fun ρ Q Q' E E' hq hx h => M.m ρ _ _ _ _ (fun x s => O.m x _ _ fun z => hq z s) hx h⟩
instance {n : Nat} {F : FS} {a : DA} [O : MF F] [M : MA a] : ME (dCall n F a) := ⟨fun ρ Q Q' E E' hq hx h => M.m ρ _ _ _ _ (fun x s h => ⟨h.1, O.m _ _ _ _ _ (fun z _ => hq z s) (fun z _ => hx z s) h.2⟩) hx h⟩
instance {n i : Nat} {F : FS} {a : DA} [O : MF F] [M : MA a] : ME (dCallR n F i a) := ⟨fun ρ Q Q' E E' hq hx h => ⟨h.1, M.m ρ _ _ _ _ (fun x s ⟨h1, m, h2, h3⟩ => ⟨h1, m, h2, O.m _ _ _ _ _ (fun z _ ⟨m', e, q⟩ => ⟨m', e, hq z _ q⟩) (fun z _ ⟨m', e, q⟩ => ⟨m', e, hx z _ q⟩) h3⟩) hx h.2⟩⟩
instance {F : FS} [O : MF F] : ME (dCall0 F) := ⟨fun ρ Q Q' E E' hq hx h => O.m _ _ _ _ _ (fun z _ => hq z ρ) (fun _ _ h => h) h⟩
instance {n : Nat} {F : FS} {a : DA} [O : MF F] [M : MA a] : MA (nCall n F a) := ⟨fun ρ Q Q' E E' hq hx h => M.m ρ _ _ _ _ (fun x s h => ⟨h.1, O.m _ _ _ _ _ (fun z _ ⟨l, e, q⟩ => ⟨l, e, hq _ s q⟩) (fun z _ => hx z s) h.2⟩) hx h⟩
instance {f g : O2} {a b c : DE} [O : MO f] [P : MO g] [M : ME a] [N : ME b] [R : ME c] : ME (dChain f g a b c) := ⟨fun ρ Q Q' E E' hq hx h => M.m ρ _ _ _ _ (fun x s => N.m s _ _ _ _ (fun y s => O.m x y _ _ fun z ⟨k, e, q⟩ => ⟨k, e, by
  cases k with
  | true => rw [if_pos rfl] at q ⊢; exact R.m s _ _ _ _ (fun w s => P.m y w _ _ fun r => hq r s) hx q
  | false => rw [if_neg (by decide)] at q ⊢; exact hq _ _ q⟩) hx) hx h⟩
instance {f : D → (D → Prop) → Prop} {a : DE} [O : MU f] [M : ME a] : ME (dUn f a) := ⟨fun ρ Q Q' E E' hq hx h => M.m ρ _ _ _ _ (fun x s => O.m x _ _ fun z => hq z s) hx h⟩
instance {t : DE} [M : ME t] : MT (dTst t) := ⟨fun ρ Q Q' E E' hq hx h => M.m ρ _ _ _ _ (fun x s ⟨b, e, q⟩ => ⟨b, e, hq b s q⟩) hx h⟩
instance {t u : DT} [M : MT t] [N : MT u] : MT (tAndD t u) := ⟨fun ρ Q Q' E E' hq hx h => M.m ρ _ _ _ _ (fun c s q => by
  cases c with
  | true => rw [if_pos rfl] at q ⊢; exact N.m s _ _ _ _ hq hx q
  | false => rw [if_neg (by decide)] at q ⊢; exact hq _ _ q) hx h⟩
instance {t u : DT} [M : MT t] [N : MT u] : MT (tOrD t u) := ⟨fun ρ Q Q' E E' hq hx h => M.m ρ _ _ _ _ (fun c s q => by
  cases c with
  | true => rw [if_pos rfl] at q ⊢; exact hq _ _ q
  | false => rw [if_neg (by decide)] at q ⊢; exact N.m s _ _ _ _ hq hx q) hx h⟩
instance {t : DT} [M : MT t] : MT (tNotD t) := ⟨fun ρ Q Q' E E' hq hx h => M.m ρ _ _ _ _ (fun c s q => hq _ s q) hx h⟩
instance : MT tYesD := ⟨fun ρ Q Q' E E' hq hx h => hq _ _ h⟩
instance {a b : DE} [M : ME a] [N : ME b] : ME (dAnd a b) := ⟨fun ρ Q Q' E E' hq hx h => M.m ρ _ _ _ _ (fun x s ⟨c, e, q⟩ => ⟨c, e, by
  cases c with
  | true => rw [if_pos rfl] at q ⊢; exact N.m s _ _ _ _ hq hx q
  | false => rw [if_neg (by decide)] at q ⊢; exact hq _ _ q⟩) hx h⟩
instance {a b : DE} [M : ME a] [N : ME b] : ME (dOr a b) := ⟨fun ρ Q Q' E E' hq hx h => M.m ρ _ _ _ _ (fun x s ⟨c, e, q⟩ => ⟨c, e, by
  cases c with
  | true => rw [if_pos rfl] at q ⊢; exact hq _ _ q
  | false => rw [if_neg (by decide)] at q ⊢; exact N.m s _ _ _ _ hq hx q⟩) hx h⟩
instance {a : DE} [M : ME a] : ME (dNot a) := ⟨fun ρ Q Q' E E' hq hx h => M.m ρ _ _ _ _ (fun x s ⟨c, e, q⟩ => ⟨c, e, hq _ s q⟩) hx h⟩
instance {t : DT} {a b : DE} [T : MT t] [M : ME a] [N : ME b] : ME (dIf t a b) := ⟨fun ρ Q Q' E E' hq hx h => T.m ρ _ _ _ _ (fun c s q => by
  cases c with
  | true => rw [if_pos rfl] at q ⊢; exact M.m s _ _ _ _ hq hx q
  | false => rw [if_neg (by decide)] at q ⊢; exact N.m s _ _ _ _ hq hx q) hx h⟩
instance : MOp oNo := ⟨fun ρ Q Q' E E' hq hx h => hq _ _ h⟩
instance {t : DE} [M : ME t] : MOp (oSome t) := ⟨fun ρ Q Q' E E' hq hx h => M.m ρ _ _ _ _ (fun x s ⟨b, e, q⟩ => ⟨b, e, hq _ s q⟩) hx h⟩
instance {t : DE} {lo hi : DO} [M : ME t] [N : MOp lo] [O : MOp hi] : ME (dSl t lo hi) := ⟨fun ρ Q Q' E E' hq hx h => M.m ρ _ _ _ _ (fun x s => N.m s _ _ _ _ (fun l s => O.m s _ _ _ _ (fun u s q => by
  cases x <;> first | exact q.elim | exact hq _ s q) hx) hx) hx h⟩
instance {t : DE} [M : ME t] : MA (iSq t) := ⟨fun ρ Q Q' E E' hq hx h => M.m ρ _ _ _ _ (fun x s ⟨xs, e, q⟩ => ⟨xs, e, hq _ s q⟩) hx h⟩
instance {t : DE} [M : ME t] : MA (iS t) := ⟨fun ρ Q Q' E E' hq hx h => M.m ρ _ _ _ _ (fun x s ⟨xs, e, q⟩ => ⟨xs, e, hq _ s q⟩) hx h⟩
instance {t : DA} [M : MA t] : MA (iEn t) := ⟨fun ρ Q Q' E E' hq hx h => M.m ρ _ _ _ _ (fun x s ⟨a, b, e, f, q⟩ => ⟨a, b, e, f, hq _ s q⟩) hx h⟩
instance {t : DA} [M : MA t] : MA (iZp t) := ⟨fun ρ Q Q' E E' hq hx h => M.m ρ _ _ _ _ (fun x s ⟨a, b, c, d, e, f, g, q⟩ => ⟨a, b, c, d, e, f, g, hq _ s q⟩) hx h⟩
instance {t : DA} [M : MA t] : MA (iR1 t) := ⟨fun ρ Q Q' E E' hq hx h => M.m ρ _ _ _ _ (fun x s ⟨a, b, c, q⟩ => ⟨a, b, c, hq _ s q⟩) hx h⟩
instance {t : DA} [M : MA t] : MA (iR2 t) := ⟨fun ρ Q Q' E E' hq hx h => M.m ρ _ _ _ _ (fun x s ⟨a, b, c, d, q⟩ => ⟨a, b, c, d, hq _ s q⟩) hx h⟩
instance {i : Nat} : MG (gNm i) := ⟨fun d ρ Q Q' hq h => ⟨h.1, hq _ h.2⟩⟩
instance : MGs gN := ⟨fun d ρ Q Q' hq h => by cases d with
  | nil => exact hq _ h
  | cons a b => exact h.elim⟩
instance {g : DG} {h : DGs} [M : MG g] [N : MGs h] : MGs (gC g h) := ⟨fun d ρ Q Q' hq z => by cases d with
  | nil => exact z.elim
  | cons a b => exact M.m a ρ _ _ (fun s => N.m b s _ _ hq) z⟩
instance {n : Nat} {g : DGs} [M : MGs g] : MG (gTp n g) := ⟨fun d ρ Q Q' hq h => by cases d <;> first | exact h.elim | exact ⟨h.1, M.m _ ρ _ _ hq h.2⟩⟩
instance {t : DA} [M : MA t] : MA (nList t) := ⟨fun ρ Q Q' E E' hq hx h => by
  rw [nList_t] at h ⊢
  refine M.m ρ _ _ _ _ (fun x s q => ?_) hx h
  split at q
  · exact hq _ s q
  · exact hq _ s q
  · exact q.elim⟩
instance {t : DE} [M : ME t] : MA (nRg1 t) := ⟨fun ρ Q Q' E E' hq hx h => M.m ρ _ _ _ _ (fun x s ⟨a, b, c, q⟩ => ⟨a, b, c, hq _ s q⟩) hx h⟩
instance {i : Nat} {t : DE} [M : ME t] : ME (dIxH i t) := ⟨fun ρ Q Q' E E' hq hx h => ⟨h.1, M.m ρ _ _ _ _ (fun x s ⟨a, b, c, d, e, f, q⟩ => ⟨a, b, c, d, e, f, hq _ s q⟩) hx h.2⟩⟩
instance {i : Nat} : ME (dLenH i) := ⟨fun ρ Q Q' E E' hq hx ⟨ds, e, q⟩ => ⟨ds, e, hq _ _ q⟩⟩
instance {b : Bool} {i : Nat} {t : DE} [M : ME t] : ME (dInH b i t) := ⟨fun ρ Q Q' E E' hq hx h => M.m ρ _ _ _ _ (fun x s ⟨a, e, f, q⟩ => ⟨a, e, f, hq _ s q⟩) hx h⟩
instance {nm : Str → Option Str} {t : DE} [M : ME t] : ME (dErr nm t) := ⟨fun ρ Q Q' E E' hq hx h => M.m ρ _ _ _ _ (fun x s q => hq _ s q) (fun x s ⟨h1, r, h2, q⟩ => ⟨h1, r, h2, hq _ s q⟩) h⟩
instance {te : DE} {tx : DA} [M : ME te] [N : MA tx] : ME (dIxL te tx) := ⟨fun ρ Q Q' E E' hq hx h => M.m ρ _ _ _ _ (fun x s ⟨ds, e, q⟩ => ⟨ds, e, N.m s _ _ _ _ (fun y s ⟨a, b, c, d, e, q⟩ => ⟨a, b, c, d, e, hq _ s q⟩) hx q⟩) hx h⟩
instance {ns : List Str} {tx : DA} [N : MA tx] : ME (dIxT ns tx) := ⟨fun ρ Q Q' E E' hq hx h => N.m ρ _ _ _ _ (fun y s ⟨a, b, c, d, q⟩ => ⟨a, b, c, d, hq _ s q⟩) hx h⟩
theorem lcD_m {g : DG} {tt : DT} {te : DE} {vs : List Nat} [M : MG g] [N : MT tt] [O : ME te] {Q Q' : List D → Rho → Prop} (hq : ∀ l s, Q l s → Q' l s) : ∀ (ds acc : List D) (ρ : Rho), lcD g tt te vs ds acc ρ Q → lcD g tt te vs ds acc ρ Q'
  | [], acc, ρ, h => hq _ _ h
  | d :: ds, acc, ρ, h => by
    unfold lcD at h ⊢
    refine M.m d _ _ _ (fun s => N.m s _ _ _ _ (fun b s q => ?_) (fun _ _ h => h)) h
    cases b with
    | true => rw [if_pos rfl] at q ⊢; exact O.m s _ _ _ _ (fun y s => lcD_m hq ds _ _) (fun _ _ h => h) q
    | false => rw [if_neg (by decide)] at q ⊢; exact lcD_m hq ds _ _ q
instance {ti : DI} {g : DG} {tt : DT} {te : DE} {vs : List Nat} [I : MA ti] [M : MG g] [N : MT tt] [O : ME te] : MA (nLc ti g tt te vs) := ⟨fun ρ Q Q' E E' hq hx h => ⟨h.1, I.m ρ _ _ _ _ (fun ds s h => ⟨h.1, lcD_m hq ds _ _ h.2⟩) hx h.2⟩⟩
/-! ### statements -/
instance : MS sNext := ⟨fun B B' E E' ρ b hx h => b.nx _ h⟩
instance : MS sBreak := ⟨fun B B' E E' ρ b hx h => b.bk _ h⟩
instance : MS sCont := ⟨fun B B' E E' ρ b hx h => b.ct _ h⟩
instance : MS sNever := ⟨fun B B' E E' ρ b hx h => h.elim⟩
instance : MS sRetN := ⟨fun B B' E E' ρ b hx h => b.rt _ _ h⟩
instance {n : Str} : MS (sRaise n) := ⟨fun B B' E E' ρ b hx h => hx _ _ h⟩
instance {t u : DS} [M : MS t] [N : MS u] : MS (sSeq t u) := ⟨fun B B' E E' ρ b hx h => M.m { B with nx := fun ρ' => u B E ρ' } { B' with nx := fun ρ' => u B' E' ρ' } E E' ρ ⟨fun s => N.m B B' E E' s b hx, b.rt, b.bk, b.ct⟩ hx h⟩
instance {t : DE} [M : ME t] : MS (sDrop t) := ⟨fun B B' E E' ρ b hx h => M.m ρ _ _ _ _ (fun _ s => b.nx s) hx h⟩
instance {t : DE} [M : ME t] : MS (sRet t) := ⟨fun B B' E E' ρ b hx h => M.m ρ _ _ _ _ b.rt hx h⟩
instance {c : DT} {t u : DS} [C : MT c] [M : MS t] [N : MS u] : MS (sIf c t u) := ⟨fun B B' E E' ρ b hx h => C.m ρ _ _ _ _ (fun c s q => by
  cases c with
  | true => rw [if_pos rfl] at q ⊢; exact M.m _ _ _ _ s b hx q
  | false => rw [if_neg (by decide)] at q ⊢; exact N.m _ _ _ _ s b hx q) hx h⟩
instance {t : DE} {g : DG} [M : ME t] [N : MG g] : MS (sAsg t g) := ⟨fun B B' E E' ρ b hx h => M.m ρ _ _ _ _ (fun d s => N.m d s _ _ b.nx) hx h⟩
instance {i j : Nat} {t : DA} [M : MA t] : MS (sPar i j t) := ⟨fun B B' E E' ρ b hx h => by
  rw [sPar_s] at h ⊢
  refine M.m ρ _ _ _ _ (fun ds s q => ?_) hx h
  split at q
  · exact ⟨q.1, b.nx _ q.2⟩
  · exact q.elim⟩
theorem forD_m {g : DG} {tb : DS} [M : MG g] [N : MS tb] {B B' : DEnds} {E E' : EQ} (b : BLe B B') (hx : ∀ x s, E x s → E' x s) : ∀ (ds : List D) (ρ : Rho), forD g tb B E ds ρ → forD g tb B' E' ds ρ
  | [], ρ, h => b.nx _ h
  | d :: ds, ρ, h => by
    unfold forD at h ⊢
    exact M.m d ρ _ _ (fun s => N.m { B with nx := forD g tb B E ds, ct := forD g tb B E ds, bk := B.nx } { B' with nx := forD g tb B' E' ds, ct := forD g tb B' E' ds, bk := B'.nx } E E' s ⟨fun s => forD_m b hx ds s, b.rt, b.nx, fun s => forD_m b hx ds s⟩ hx) h
instance {ti : DI} {g : DG} {tb : DS} [I : MA ti] [M : MG g] [N : MS tb] : MS (sFor ti g tb) := ⟨fun B B' E E' ρ b hx h => I.m ρ _ _ _ _ (fun ds s => forD_m b hx ds s) hx h⟩
instance {c : DT} {tb : DS} [C : MT c] [N : MS tb] : MS (sWhile c tb) := ⟨fun B B' E E' ρ b hx ⟨I, h0, h⟩ => ⟨I, h0, fun m s i => C.m s _ _ _ _ (fun c s q => by
  cases c with
  | true => rw [if_pos rfl] at q ⊢; exact N.m { B with nx := fun ρ' => ∃ m', m' < m ∧ I m' ρ', ct := fun ρ' => ∃ m', m' < m ∧ I m' ρ', bk := B.nx } { B' with nx := fun ρ' => ∃ m', m' < m ∧ I m' ρ', ct := fun ρ' => ∃ m', m' < m ∧ I m' ρ', bk := B'.nx } E E' s ⟨fun _ h => h, b.rt, b.nx, fun _ h => h⟩ hx q
  | false => rw [if_neg (by decide)] at q ⊢; exact b.nx _ q) hx (h m s i)⟩⟩
instance {i : Nat} {t : DA} [M : MA t] : MS (sOwn i t) := ⟨fun B B' E E' ρ b hx h => M.m ρ _ _ _ _ (fun ds s q => ⟨q.1, q.2.1, b.nx _ q.2.2⟩) hx h⟩
instance {i : Nat} {t : DA} [M : MA t] : MS (sApp i t) := ⟨fun B B' E E' ρ b hx h => ⟨h.1, M.m ρ _ _ _ _ (fun ds s ⟨a, c, d, e, f, q⟩ => ⟨a, c, d, e, f, b.nx _ q⟩) hx h.2⟩⟩
instance {i : Nat} {te tk : DE} [M : ME te] [N : ME tk] : MS (sSto i te tk) := ⟨fun B B' E E' ρ b hx h => M.m ρ _ _ _ _ (fun d s q => ⟨q.1, N.m s _ _ _ _ (fun k s ⟨a, c, d, e, f, g, q⟩ => ⟨a, c, d, e, f, g, b.nx _ q⟩) hx q.2⟩) hx h⟩
instance {i j : Nat} {t : DA} {u : DE} [M : MA t] [N : ME u] : MS (sParN i j t u) := ⟨fun B B' E E' ρ b hx h => M.m ρ _ _ _ _ (fun ds s => N.m s _ _ _ _ (fun d s q => ⟨q.1, b.nx _ q.2⟩) hx) hx h⟩
instance {i j : Nat} {t : DA} {u : DE} [M : MA t] [N : ME u] : MS (sParV i j u t) := ⟨fun B B' E E' ρ b hx h => N.m ρ _ _ _ _ (fun d s => M.m s _ _ _ _ (fun ds s q => ⟨q.1, b.nx _ q.2⟩) hx) hx h⟩
/-! ### invariants -/
/-- a for: I of what is still to come -/
theorem forD_inv {g : DG} {tb : DS} [M : MG g] [N : MS tb] {B : DEnds} {E : EQ} (I : List D → Rho → Prop) : ∀ {ds : List D} {ρ : Rho}, I ds ρ → (∀ d r s, (∃ p, p ++ d :: r = ds) → I (d :: r) s → g d s fun s' => tb { B with nx := I r, ct := I r, bk := B.nx } E s') → (∀ s, I [] s → B.nx s) → forD g tb B E ds ρ
  | [], ρ, h0, _, he => he ρ h0
  | d :: ds, ρ, h0, hs, he => by
    unfold forD
    have k : ∀ s, I ds s → forD g tb B E ds s := fun s h => forD_inv I h (fun d' r s ⟨p, e⟩ => hs d' r s ⟨d :: p, by rw [List.cons_append, e]⟩) he
    exact M.m d ρ _ _ (fun s => N.m { B with nx := I ds, ct := I ds, bk := B.nx } { B with nx := forD g tb B E ds, ct := forD g tb B E ds, bk := B.nx } E E s ⟨k, fun _ _ h => h, fun _ h => h, k⟩ (fun _ _ h => h)) (hs d ds ρ ⟨[], rfl⟩ h0)
/-- the same, by the place -/
theorem forD_ix {g : DG} {tb : DS} [M : MG g] [N : MS tb] {B : DEnds} {E : EQ} (I : Nat → Rho → Prop) {ds : List D} {ρ : Rho} (h0 : I 0 ρ) (hs : ∀ i d s, ds[i]? = some d → I i s → g d s fun s' => tb { B with nx := I (i + 1), ct := I (i + 1), bk := B.nx } E s') (he : ∀ s, I ds.length s → B.nx s) : forD g tb B E ds ρ := by
  refine forD_inv (fun r s => I (ds.length - r.length) s) (by simpa using h0) (fun d r s ⟨p, e⟩ h => ?_) (by simpa using he)
  have e1 : ds.length - (d :: r).length = p.length := by rw [← e]; simp
  have e2 : ds.length - r.length = p.length + 1 := by rw [← e]; simp; omega
  have e3 : ds[p.length]? = some d := by rw [← e]; simp
  rw [e1] at h
  have z := hs _ d s e3 h
  rw [e2]
  exact z
/-- a comprehension -/
theorem lcD_inv {g : DG} {tt : DT} {te : DE} {vs : List Nat} [M : MG g] [N : MT tt] [O : ME te] (I : List D → List D → Rho → Prop) {Q : List D → Rho → Prop} : ∀ {ds acc : List D} {ρ : Rho}, I ds acc ρ →
    (∀ d r acc s, (∃ p, p ++ d :: r = ds) → I (d :: r) acc s → g d (wipeR s vs) fun ρ1 => tt ρ1 (fun b ρ2 => if b = true then te ρ2 (fun y ρ3 => I r (acc ++ [y]) (bakR s ρ3 vs)) (fun _ _ => False) else I r acc (bakR s ρ2 vs)) (fun _ _ => False)) →
    (∀ acc s, I [] acc s → Q acc s) → lcD g tt te vs ds acc ρ Q
  | [], acc, ρ, h0, _, he => he _ _ h0
  | d :: ds, acc, ρ, h0, hs, he => by
    unfold lcD
    have k : ∀ acc s, I ds acc s → lcD g tt te vs ds acc s Q := fun acc s h => lcD_inv I h (fun d' r acc s ⟨p, e⟩ => hs d' r acc s ⟨d :: p, by rw [List.cons_append, e]⟩) he
    refine M.m d _ _ _ (fun s => N.m s _ _ _ _ (fun b s q => ?_) (fun _ _ h => h)) (hs d ds acc ρ ⟨[], rfl⟩ h0)
    cases b with
    | true => rw [if_pos rfl] at q ⊢; exact O.m s _ _ _ _ (fun y s => k _ _) (fun _ _ h => h) q
    | false => rw [if_neg (by decide)] at q ⊢; exact k _ _ q
/-- a comprehension that draws nothing: an item each, or none -/
theorem lcD_fm {g : DG} {tt : DT} {te : DE} {vs : List Nat} [M : MG g] [N : MT tt] [O : ME te] (f : D → Option D) {Q : List D → Rho → Prop} {ds : List D} {acc : List D} {ρ : Rho}
    (hs : ∀ d ∈ ds, g d (wipeR ρ vs) fun ρ1 => tt ρ1 (fun b ρ2 => if b = true then te ρ2 (fun y ρ3 => f d = some y ∧ bakR ρ ρ3 vs = ρ) (fun _ _ => False) else f d = none ∧ bakR ρ ρ2 vs = ρ) (fun _ _ => False))
    (hQ : Q (acc ++ ds.filterMap f) ρ) : lcD g tt te vs ds acc ρ Q := by
  refine lcD_inv (fun r a s => s = ρ ∧ a ++ r.filterMap f = acc ++ ds.filterMap f) ⟨rfl, rfl⟩ (fun d r a s ⟨p, e⟩ ⟨h1, h2⟩ => ?_) (fun a s ⟨h1, h2⟩ => by rw [h1]; simp at h2; rw [h2]; exact hQ)
  subst h1
  have hm : d ∈ ds := by rw [← e]; simp
  refine M.m d _ _ _ (fun s1 => N.m s1 _ _ _ _ (fun b s2 q => ?_) (fun _ _ h => h)) (hs d hm)
  cases b with
  | true =>
    rw [if_pos rfl] at q ⊢
    refine O.m s2 _ _ _ _ (fun y s3 ⟨q1, q2⟩ => ⟨q2, ?_⟩) (fun _ _ h => h) q
    rw [List.filterMap_cons_some q1] at h2
    simpa using h2
  | false =>
    rw [if_neg (by decide)] at q ⊢
    refine ⟨q.2, ?_⟩
    rw [List.filterMap_cons_none q.1] at h2
    exact h2
/-! ### lengths -/
section
@[simp] theorem lim0 : (0 ≤ LIM) = True := eq_true (by show 0 ≤ 1000000; omega)
@[simp] theorem lim1 : (1 ≤ LIM) = True := eq_true (by show 1 ≤ 1000000; omega)
@[simp] theorem lim2 : (2 ≤ LIM) = True := eq_true (by show 2 ≤ 1000000; omega)
@[simp] theorem lim3 : (3 ≤ LIM) = True := eq_true (by show 3 ≤ 1000000; omega)
@[simp] theorem lim4 : (4 ≤ LIM) = True := eq_true (by show 4 ≤ 1000000; omega)
@[simp] theorem lim5 : (5 ≤ LIM) = True := eq_true (by show 5 ≤ 1000000; omega)
@[simp] theorem lim6 : (6 ≤ LIM) = True := eq_true (by show 6 ≤ 1000000; omega)
@[simp] theorem lim7 : (7 ≤ LIM) = True := eq_true (by show 7 ≤ 1000000; omega)
@[simp] theorem lim8 : (8 ≤ LIM) = True := eq_true (by show 8 ≤ 1000000; omega)
@[simp] theorem lim9 : (9 ≤ LIM) = True := eq_true (by show 9 ≤ 1000000; omega)
@[simp] theorem lim10 : (10 ≤ LIM) = True := eq_true (by show 10 ≤ 1000000; omega)
@[simp] theorem lim12 : (12 ≤ LIM) = True := eq_true (by show 12 ≤ 1000000; omega)
@[simp] theorem lim13 : (13 ≤ LIM) = True := eq_true (by show 13 ≤ 1000000; omega)
@[simp] theorem lim14 : (14 ≤ LIM) = True := eq_true (by show 14 ≤ 1000000; omega)
@[simp] theorem lim16 : (16 ≤ LIM) = True := eq_true (by show 16 ≤ 1000000; omega)
@[simp] theorem lim17 : (17 ≤ LIM) = True := eq_true (by show 17 ≤ 1000000; omega)
end
/-! ### the specs are monotone -/
instance : MSV S_is_whole := ⟨fun ds Q Q' E E' hq hx => by
  unfold S_is_whole
  split <;> repeat' (first | exact fun h => h | exact fun h => h.elim | exact hq _ | exact hq _ _ | exact hx _ | exact hx _ _ | apply And.imp | apply Or.imp | (apply Exists.imp; intro _) | (apply forall_imp; intro _))⟩
instance : MSV S_is_rising := ⟨fun ds Q Q' E E' hq hx => by
  unfold S_is_rising
  split <;> repeat' (first | exact fun h => h | exact fun h => h.elim | exact hq _ | exact hq _ _ | exact hx _ | exact hx _ _ | apply And.imp | apply Or.imp | (apply Exists.imp; intro _) | (apply forall_imp; intro _))⟩
instance : MSV S_is_part := ⟨fun ds Q Q' E E' hq hx => by
  unfold S_is_part
  split <;> repeat' (first | exact fun h => h | exact fun h => h.elim | exact hq _ | exact hq _ _ | exact hx _ | exact hx _ _ | apply And.imp | apply Or.imp | (apply Exists.imp; intro _) | (apply forall_imp; intro _))⟩
instance : MSV S_is_way := ⟨fun ds Q Q' E E' hq hx => by
  unfold S_is_way
  split <;> repeat' (first | exact fun h => h | exact fun h => h.elim | exact hq _ | exact hq _ _ | exact hx _ | exact hx _ _ | apply And.imp | apply Or.imp | (apply Exists.imp; intro _) | (apply forall_imp; intro _))⟩
instance : MSV S_has_house := ⟨fun ds Q Q' E E' hq hx => by
  unfold S_has_house
  split <;> repeat' (first | exact fun h => h | exact fun h => h.elim | exact hq _ | exact hq _ _ | exact hx _ | exact hx _ _ | apply And.imp | apply Or.imp | (apply Exists.imp; intro _) | (apply forall_imp; intro _))⟩
instance : MSV S_has_person := ⟨fun ds Q Q' E E' hq hx => by
  unfold S_has_person
  split <;> repeat' (first | exact fun h => h | exact fun h => h.elim | exact hq _ | exact hq _ _ | exact hx _ | exact hx _ _ | apply And.imp | apply Or.imp | (apply Exists.imp; intro _) | (apply forall_imp; intro _))⟩
instance : MSV S_is_turning := ⟨fun ds Q Q' E E' hq hx => by
  unfold S_is_turning
  split <;> repeat' (first | exact fun h => h | exact fun h => h.elim | exact hq _ | exact hq _ _ | exact hx _ | exact hx _ _ | apply And.imp | apply Or.imp | (apply Exists.imp; intro _) | (apply forall_imp; intro _))⟩
instance : MSV S_has_row := ⟨fun ds Q Q' E E' hq hx => by
  unfold S_has_row
  split <;> repeat' (first | exact fun h => h | exact fun h => h.elim | exact hq _ | exact hq _ _ | exact hx _ | exact hx _ _ | apply And.imp | apply Or.imp | (apply Exists.imp; intro _) | (apply forall_imp; intro _))⟩
instance : MSV S_need_house := ⟨fun ds Q Q' E E' hq hx => by
  unfold S_need_house
  split <;> repeat' (first | exact fun h => h | exact fun h => h.elim | exact hq _ | exact hq _ _ | exact hx _ | exact hx _ _ | apply And.imp | apply Or.imp | (apply Exists.imp; intro _) | (apply forall_imp; intro _))⟩
instance : MSV S_need_row := ⟨fun ds Q Q' E E' hq hx => by
  unfold S_need_row
  split <;> repeat' (first | exact fun h => h | exact fun h => h.elim | exact hq _ | exact hq _ _ | exact hx _ | exact hx _ _ | apply And.imp | apply Or.imp | (apply Exists.imp; intro _) | (apply forall_imp; intro _))⟩
instance : MSV S_turned := ⟨fun ds Q Q' E E' hq hx => by
  unfold S_turned
  split <;> repeat' (first | exact fun h => h | exact fun h => h.elim | exact hq _ | exact hq _ _ | exact hx _ | exact hx _ _ | apply And.imp | apply Or.imp | (apply Exists.imp; intro _) | (apply forall_imp; intro _))⟩
instance : MSV S_houses_along := ⟨fun ds Q Q' E E' hq hx => by
  unfold S_houses_along
  split <;> repeat' (first | exact fun h => h | exact fun h => h.elim | exact hq _ | exact hq _ _ | exact hx _ | exact hx _ _ | apply And.imp | apply Or.imp | (apply Exists.imp; intro _) | (apply forall_imp; intro _))⟩
instance : MSV S_fits := ⟨fun ds Q Q' E E' hq hx => by
  unfold S_fits
  split <;> repeat' (first | exact fun h => h | exact fun h => h.elim | exact hq _ | exact hq _ _ | exact hx _ | exact hx _ _ | apply And.imp | apply Or.imp | (apply Exists.imp; intro _) | (apply forall_imp; intro _))⟩
instance : MSV S_seen_at := ⟨fun ds Q Q' E E' hq hx => by
  unfold S_seen_at
  split <;> repeat' (first | exact fun h => h | exact fun h => h.elim | exact hq _ | exact hq _ _ | exact hx _ | exact hx _ _ | apply And.imp | apply Or.imp | (apply Exists.imp; intro _) | (apply forall_imp; intro _))⟩
instance : MSV S_back_of := ⟨fun ds Q Q' E E' hq hx => by
  unfold S_back_of
  split <;> repeat' (first | exact fun h => h | exact fun h => h.elim | exact hq _ | exact hq _ _ | exact hx _ | exact hx _ _ | apply And.imp | apply Or.imp | (apply Exists.imp; intro _) | (apply forall_imp; intro _))⟩
instance : MSV S_history := ⟨fun ds Q Q' E E' hq hx => by
  unfold S_history
  split <;> repeat' (first | exact fun h => h | exact fun h => h.elim | exact hq _ | exact hq _ _ | exact hx _ | exact hx _ _ | apply And.imp | apply Or.imp | (apply Exists.imp; intro _) | (apply forall_imp; intro _))⟩
instance : MSV S_seen := ⟨fun ds Q Q' E E' hq hx => by
  unfold S_seen
  split <;> repeat' (first | exact fun h => h | exact fun h => h.elim | exact hq _ | exact hq _ _ | exact hx _ | exact hx _ _ | apply And.imp | apply Or.imp | (apply Exists.imp; intro _) | (apply forall_imp; intro _))⟩
instance : MSV S_house_behind := ⟨fun ds Q Q' E E' hq hx => by
  unfold S_house_behind
  split <;> repeat' (first | exact fun h => h | exact fun h => h.elim | exact hq _ | exact hq _ _ | exact hx _ | exact hx _ _ | apply And.imp | apply Or.imp | (apply Exists.imp; intro _) | (apply forall_imp; intro _))⟩
instance : MSV S_law_part_names := ⟨fun ds Q Q' E E' hq hx => by
  unfold S_law_part_names
  split <;> repeat' (first | exact fun h => h | exact fun h => h.elim | exact hq _ | exact hq _ _ | exact hx _ | exact hx _ _ | apply And.imp | apply Or.imp | (apply Exists.imp; intro _) | (apply forall_imp; intro _))⟩
instance : MSV S_law_behind := ⟨fun ds Q Q' E E' hq hx => by
  unfold S_law_behind
  split <;> repeat' (first | exact fun h => h | exact fun h => h.elim | exact hq _ | exact hq _ _ | exact hx _ | exact hx _ _ | apply And.imp | apply Or.imp | (apply Exists.imp; intro _) | (apply forall_imp; intro _))⟩
instance : MSV S_law_has := ⟨fun ds Q Q' E E' hq hx => by
  unfold S_law_has
  split <;> repeat' (first | exact fun h => h | exact fun h => h.elim | exact hq _ | exact hq _ _ | exact hx _ | exact hx _ _ | apply And.imp | apply Or.imp | (apply Exists.imp; intro _) | (apply forall_imp; intro _))⟩
instance : MSV S_law_now := ⟨fun ds Q Q' E E' hq hx => by
  unfold S_law_now
  split <;> repeat' (first | exact fun h => h | exact fun h => h.elim | exact hq _ | exact hq _ _ | exact hx _ | exact hx _ _ | apply And.imp | apply Or.imp | (apply Exists.imp; intro _) | (apply forall_imp; intro _))⟩
instance : MSV S_law_seen := ⟨fun ds Q Q' E E' hq hx => by
  unfold S_law_seen
  split <;> repeat' (first | exact fun h => h | exact fun h => h.elim | exact hq _ | exact hq _ _ | exact hx _ | exact hx _ _ | apply And.imp | apply Or.imp | (apply Exists.imp; intro _) | (apply forall_imp; intro _))⟩
instance : MSB S_law_under := ⟨fun b ds Q Q' E E' hq hx => by
  unfold S_law_under
  split <;> repeat' (first | exact fun h => h | exact fun h => h.elim | exact hq _ | exact hq _ _ | exact hx _ | exact hx _ _ | apply And.imp | apply Or.imp | (apply Exists.imp; intro _) | (apply forall_imp; intro _))⟩
instance : MSB S_law_some := ⟨fun b ds Q Q' E E' hq hx => by
  unfold S_law_some
  split <;> repeat' (first | exact fun h => h | exact fun h => h.elim | exact hq _ | exact hq _ _ | exact hx _ | exact hx _ _ | apply And.imp | apply Or.imp | (apply Exists.imp; intro _) | (apply forall_imp; intro _))⟩
instance : MSB S_law_kinds := ⟨fun b ds Q Q' E E' hq hx => by
  unfold S_law_kinds
  split <;> repeat' (first | exact fun h => h | exact fun h => h.elim | exact hq _ | exact hq _ _ | exact hx _ | exact hx _ _ | apply And.imp | apply Or.imp | (apply Exists.imp; intro _) | (apply forall_imp; intro _))⟩
instance : MSB S_law_house := ⟨fun b ds Q Q' E E' hq hx => by
  unfold S_law_house
  split <;> repeat' (first | exact fun h => h | exact fun h => h.elim | exact hq _ | exact hq _ _ | exact hx _ | exact hx _ _ | apply And.imp | apply Or.imp | (apply Exists.imp; intro _) | (apply forall_imp; intro _))⟩
instance : MSB S_law_turning := ⟨fun b ds Q Q' E E' hq hx => by
  unfold S_law_turning
  split <;> repeat' (first | exact fun h => h | exact fun h => h.elim | exact hq _ | exact hq _ _ | exact hx _ | exact hx _ _ | apply And.imp | apply Or.imp | (apply Exists.imp; intro _) | (apply forall_imp; intro _))⟩
instance : MSB S_law_row := ⟨fun b ds Q Q' E E' hq hx => by
  unfold S_law_row
  split <;> repeat' (first | exact fun h => h | exact fun h => h.elim | exact hq _ | exact hq _ _ | exact hx _ | exact hx _ _ | apply And.imp | apply Or.imp | (apply Exists.imp; intro _) | (apply forall_imp; intro _))⟩
/-! ### the law -/
def S_law_vat : SV
  | [.scr ns, .int k], Q, _ => (0 ≤ k ∧ k ≤ 1000) ∧ ∀ m, Vat m → Q (.lst m)
  | _, _, _ => False
abbrev F_law_vat : FS := FV S_law_vat
@[simp] theorem S_law_vat_s {ns : List Int} {k : Int} {Q : D → Prop} {E : Exc → Prop} : S_law_vat [.scr ns, .int k] Q E = ((0 ≤ k ∧ k ≤ 1000) ∧ ∀ m, Vat m → Q (.lst m)) := (rfl)
instance : MSV S_law_vat := ⟨fun ds Q Q' E E' hq hx => by
  unfold S_law_vat
  split <;> repeat' (first | exact fun h => h | exact fun h => h.elim | exact hq _ | exact hq _ _ | exact hx _ | exact hx _ _ | apply And.imp | apply Or.imp | (apply Exists.imp; intro _) | (apply forall_imp; intro _))⟩
def S_law : SV
  | [.scr ns], Q, _ => ns.length ≤ 63 ∧ Q (.bl true)
  | _, _, _ => False
abbrev F_law : FS := FV S_law
end TS
set_option Elab.async false
set_option linter.all false
set_option maxRecDepth 100000
set_option maxHeartbeats 1000000
set_option exponentiation.threshold 10000
/-! how the specs are used, step by step -/
namespace TS
open PySem PySem.Spec PyProof.Rows L2
theorem sSeq_k {t u : DS} {B : DEnds} {E : EQ} {ρ : Rho} (h : ∀ K : Rho → Prop, (∀ s, u B E s → K s) → t { B with nx := K } E ρ) : sSeq t u B E ρ := h _ fun _ h => h
/-- one statement, the rest kept for later -/
theorem bNx {t : DS} {B : DEnds} {E : EQ} {ρ : Rho} (h : ∀ K : Rho → Prop, (∀ s, B.nx s → K s) → t { B with nx := K } E ρ) : t B E ρ := h _ fun _ h => h
@[simp] theorem nCall_v {n : Nat} {S : SV} {t : DA} {ρ : Rho} {Q : List D → Rho → Prop} {E : EQ} : nCall n (FV S) t ρ Q E = t ρ (fun ds ρ1 => ds.length = n ∧ S ds (fun d => ∃ l, d = .lst l ∧ Q l ρ1) (fun x => E x ρ1)) E := by
  unfold nCall
  simp only [FV_vals]
theorem giveT {b : Bool} {Q : D → Prop} (h : b = true) (hq : Q (.bl true)) : Q (.bl b) := h ▸ hq
theorem pd_by {d : D} (h : pdB 40 d = true) : pd d := h
@[simp] def nbl : List Sl → Prop
  | [] => True
  | x :: r => nb x ∧ nbl r
theorem rng_get {n i : Nat} {d : D} (h : ((List.range n).map fun (i : Nat) => D.int (0 + i))[i]? = some d) : d = .int i ∧ i < n := by
  rw [List.getElem?_map] at h
  by_cases q : i < n
  · rw [List.getElem?_range q] at h
    simp at h
    exact ⟨h.symm, q⟩
  · rw [List.getElem?_eq_none (by simp; omega)] at h
    cases h
theorem rng_get' {n i : Nat} {d : D} (h : ((List.range n).map fun (i : Nat) => D.int i)[i]? = some d) : d = .int i ∧ i < n := by
  rw [List.getElem?_map] at h
  by_cases q : i < n
  · rw [List.getElem?_range q] at h
    simp at h
    exact ⟨h.symm, q⟩
  · rw [List.getElem?_eq_none (by simp; omega)] at h
    cases h
theorem good_snoc {size : Int} {ws : List Wy} {w : Wy} (hg : ∀ j w, ws[j]? = some w → GoodW size j w) (g : GoodW size ws.length w) : ∀ j v, (ws ++ [w])[j]? = some v → GoodW size j v := fun j v hv => by
  rw [List.getElem?_append] at hv
  split at hv
  · exact hg j v hv
  · rename_i hj
    have e : j = ws.length := by
      have := (List.getElem?_eq_some_iff.mp hv).1
      simp at this
      omega
    subst e
    simp at hv
    subst hv
    exact g
mutual
theorem eqD_refl : ∀ d : D, bare d = true → eqD d d = true
  | .non, _ => by simp [eqD]
  | .bl _, _ => by simp [eqD]
  | .int _, _ => by simp [eqD]
  | .str _, _ => by simp [eqD]
  | .tup ds, h => by simp only [eqD]; exact eqL_refl ds (by simpa [bare] using h)
  | .lst ds, h => by simp only [eqD]; exact eqL_refl ds (by simpa [bare] using h)
  | .scr _, h => by simp [bare] at h
  | .glo _, h => by simp [bare] at h
  | .ty _, h => by simp [bare] at h
theorem eqL_refl : ∀ ds : List D, bareL ds = true → eqL ds ds = true
  | [], _ => by simp [eqL]
  | d :: ds, h => by
    simp only [bareL, Bool.and_eq_true] at h
    simp only [eqL, eqD_refl d h.1, eqL_refl ds h.2, Bool.and_self]
end
theorem eqD_same {d : D} (h : okD 60 d = true) : eqD d d = true := eqD_refl d (okD_bare 60 d h)
theorem okD_intsD {n : Nat} {l : List Int} : okD (n + 1) (intsD l) = true := by
  unfold intsD okD
  rw [List.all_map]
  exact List.all_eq_true.mpr fun x _ => okD_i
theorem okD_hist {n : Nat} {l : List (List Int)} : okD (n + 2) (.tup (l.map intsD)) = true := by
  unfold okD
  rw [List.all_map]
  exact List.all_eq_true.mpr fun x _ => okD_intsD
theorem okD_hs {h : Hs} (g : GoodH h) : okD 60 h.d = true := pd_ok (pd_house g)
theorem pd_tns {h : Hs} {ts : List Tn} (g : GoodH h) (gr : GoodR h ts) : pd (.tup (ts.map Tn.d)) := by
  simp only [pd, pdB, List.length_map, Bool.and_eq_true, decide_eq_true_eq, List.all_eq_true]
  refine ⟨by have := gr.1; omega, fun d hd => ?_⟩
  obtain ⟨t, ht, rfl⟩ := List.mem_map.mp hd
  refine pd_tn fun n v e => ?_
  subst e
  obtain ⟨h1, h2⟩ := gr.2 _ ht
  exact kinds_len (h2 _ (g.ways n _ (List.getElem?_eq_getElem h1))).kinds
def GoodP (h : Hs) (p : Pn) : Prop := (0 ≤ p.kind ∧ p.kind ≤ 2) ∧ (0 ≤ p.a ∧ p.a < h.size) ∧ (0 ≤ p.b ∧ p.b < h.size)
theorem person_ok {h : Hs} {p : Pn} (g : GoodP h p) : hasPerson h.size p.d = true := by
  obtain ⟨h1, h2, h3⟩ := g
  unfold Pn.d
  show (isWhole _ 0 2 && isWhole _ 0 (h.size - 1) && isWhole _ 0 (h.size - 1)) = true
  rw [isWhole_i.mpr h1, isWhole_i.mpr (by omega), isWhole_i.mpr (by omega)]
  rfl
theorem pd_person {p : Pn} : pd p.d := rfl
section
variable {h : Hs} {ts : List Tn} {p : Pn} {Q : D → Prop} {E : Exc → Prop}
theorem seen_ok (g : GoodH h) (gr : GoodR h ts) (gp : GoodP h p) (hq : Q (.tup ((history h p ts).map intsD))) : S_seen [h.d, .tup (ts.map Tn.d), p.d] Q E :=
  ⟨h, rfl, g, .inr ⟨ts, rfl, pd_tns g gr, gr, pd_person, .inr ⟨p, rfl, person_ok gp, hq⟩⟩⟩
theorem seen_noperson {d : D} (g : GoodH h) (gr : GoodR h ts) (hd : pd d) (hp : hasPerson h.size d = false) (hq : E ⟨"InvalidPerson", none⟩) : S_seen [h.d, .tup (ts.map Tn.d), d] Q E :=
  ⟨h, rfl, g, .inr ⟨ts, rfl, pd_tns g gr, gr, hd, .inl ⟨hp, hq⟩⟩⟩
theorem seen_norow {r d : D} (g : GoodH h) (hd : pd r) (hr : hasRow h.size h.ways.length r = false) (hq : E ⟨"InvalidRow", none⟩) : S_seen [h.d, r, d] Q E :=
  ⟨h, rfl, g, .inl ⟨hd, hr, hq⟩⟩
theorem behind_ok (g : GoodH h) (gr : GoodR h ts) (hq : Q (behind h ts).d) : S_house_behind [h.d, .tup (ts.map Tn.d)] Q E :=
  ⟨h, rfl, g, .inr ⟨ts, rfl, pd_tns g gr, gr, hq⟩⟩
theorem behind_norow {r : D} (g : GoodH h) (hd : pd r) (hr : hasRow h.size h.ways.length r = false) (hq : E ⟨"InvalidRow", none⟩) : S_house_behind [h.d, r] Q E :=
  ⟨h, rfl, g, .inl ⟨hd, hr, hq⟩⟩
theorem turn_size {h : Hs} {t : Tn} : (turn h t).size = h.size := by
  unfold turn
  cases h.ways[t.n]? <;> rfl
theorem along_size : ∀ {ts : List Tn} {h k : Hs}, k ∈ along h ts → k.size = h.size
  | [], h, k, hk => by
    simp only [along, List.mem_singleton] at hk
    rw [hk]
  | t :: ts, h, k, hk => by
    simp only [along, List.mem_cons] at hk
    rcases hk with rfl | hk
    · rfl
    · rw [along_size hk, turn_size]
theorem GoodH.now {h : Hs} {p : Pn} (g : GoodH h) (gp : GoodP h p) : NowOk h p := ⟨fun w hw => by
  obtain ⟨i, hi, rfl⟩ := List.mem_iff_getElem.mp hw
  have z := g.ways i _ (List.getElem?_eq_getElem hi)
  exact ⟨z.word, z.start, z.share⟩, by have := g.many; omega, gp.2.1, gp.2.2⟩
theorem now_along {ts : List Tn} (g : GoodH h) (gr : GoodR h ts) (gp : GoodP h p) : ∀ k ∈ along h ts, NowOk k p := fun k hk =>
  (along_good g gr.2 k hk).now (by unfold GoodP; rw [along_size hk]; exact gp)
theorem law_seen_ok (g : GoodH h) (gr : GoodR h ts) (gp : GoodP h p) (hq : Q (.tup ((history h p ts).map intsD))) : S_law_seen [h.d, .tup (ts.map Tn.d), p.d] Q E :=
  ⟨h, ts, p, rfl, rfl, rfl, now_along g gr gp, fun t ht => (gr.2 t ht).1, by have := gr.1; omega, hq⟩
theorem law_behind_ok (g : GoodH h) (gr : GoodR h ts) (hq : Q (behind h ts).d) : S_law_behind [h.d, .tup (ts.map Tn.d)] Q E :=
  ⟨h, ts, rfl, rfl, by have := g.many; omega, fun t ht => (gr.2 t ht).1, hq⟩
theorem behind_good : ∀ {ts : List Tn} {h : Hs}, GoodH h → (∀ t ∈ ts, GoodT h t) → GoodH (behind h ts)
  | [], h, g, _ => g
  | t :: ts, h, g, gt => behind_good (ts := ts) (g.turn (gt t List.mem_cons_self)) fun u hu => (gt u (List.mem_cons_of_mem _ hu)).turn
end
/-! good houses and rows, asked by a Bool -/
def goodWB (size : Int) (i : Nat) (w : Wy) : Bool := (w.word == 0 || w.word == 1) && decide (0 ≤ w.start) && decide (w.start < size) && decide (0 ≤ w.share) && decide (w.share ≤ size) && (match w.fence with | none => true | some f => decide (0 ≤ f) && decide (f < i)) && KS7.contains w.kinds
def goodHB (h : Hs) : Bool := decide (1 ≤ h.size) && decide (h.size ≤ 1000000000000000000000000000000) && decide (1 ≤ h.ways.length) && decide (h.ways.length ≤ 3) && (List.range h.ways.length).all fun i => match h.ways[i]? with
  | some w => goodWB h.size i w
  | none => false
def goodTB (h : Hs) (t : Tn) : Bool := decide (t.n < h.ways.length) && (match t with
  | .word _ v => v == 0 || v == 1
  | .start _ v => decide (0 ≤ v) && decide (v < h.size)
  | .share _ v => decide (0 ≤ v) && decide (v ≤ h.size)
  | .fence n v => (match v with | none => true | some f => decide (0 ≤ f) && decide (f < n))
  | .kinds _ v => KS7.contains v
  | .keeps _ _ => true
  | .back _ => true)
theorem goodWB_ok {size : Int} {i : Nat} {w : Wy} (h : goodWB size i w = true) : GoodW size i w := by
  unfold goodWB at h
  simp only [Bool.and_eq_true, Bool.or_eq_true, beq_iff_eq, decide_eq_true_eq, List.contains_iff_mem] at h
  obtain ⟨⟨⟨⟨⟨⟨h1, h2⟩, h3⟩, h4⟩, h5⟩, h6⟩, h7⟩ := h
  refine ⟨h1, ⟨h2, h3⟩, ⟨h4, h5⟩, fun f e => ?_, h7⟩
  rw [e] at h6
  simpa using h6
theorem goodHB_ok {h : Hs} (g : goodHB h = true) : GoodH h := by
  unfold goodHB at g
  simp only [Bool.and_eq_true, decide_eq_true_eq, List.all_eq_true, List.mem_range] at g
  obtain ⟨⟨⟨⟨h1, h2⟩, h3⟩, h4⟩, h5⟩ := g
  refine ⟨⟨h1, h2⟩, ⟨h3, h4⟩, fun i w e => ?_⟩
  have z := h5 i (List.getElem?_eq_some_iff.mp e).1
  rw [e] at z
  exact goodWB_ok z
theorem goodTB_ok {h : Hs} {t : Tn} (g : goodTB h t = true) : GoodT h t := by
  unfold goodTB at g
  rw [Bool.and_eq_true, decide_eq_true_eq] at g
  refine ⟨g.1, fun w z => ?_⟩
  have g2 := g.2
  cases t with
  | word n v => exact ⟨(by simpa using g2 : v = 0 ∨ v = 1), z.start, z.share, z.fence, z.kinds⟩
  | start n v => exact ⟨z.word, (by simpa using g2 : 0 ≤ v ∧ v < h.size), z.share, z.fence, z.kinds⟩
  | share n v => exact ⟨z.word, z.start, (by simpa using g2 : 0 ≤ v ∧ v ≤ h.size), z.fence, z.kinds⟩
  | fence n v => exact ⟨z.word, z.start, z.share, fun f e => by
      have e' : v = some f := e
      subst e'
      have g3 : (decide (0 ≤ f) && decide (f < (n : Int))) = true := g2
      show 0 ≤ f ∧ f < (n : Int)
      simpa using g3, z.kinds⟩
  | kinds n v => exact ⟨z.word, z.start, z.share, z.fence, List.contains_iff_mem.mp g2⟩
  | keeps n v => exact ⟨z.word, z.start, z.share, z.fence, z.kinds⟩
  | back n => exact z
def goodRB (h : Hs) (ts : List Tn) : Bool := decide (ts.length ≤ 6) && ts.all fun t => goodTB h t
theorem goodRB_ok {h : Hs} {ts : List Tn} (g : goodRB h ts = true) : GoodR h ts := by
  unfold goodRB at g
  rw [Bool.and_eq_true, decide_eq_true_eq, List.all_eq_true] at g
  exact ⟨g.1, fun t ht => goodTB_ok (g.2 t ht)⟩
def goodPB (h : Hs) (p : Pn) : Bool := decide (0 ≤ p.kind) && decide (p.kind ≤ 2) && (decide (0 ≤ p.a) && decide (p.a < h.size)) && (decide (0 ≤ p.b) && decide (p.b < h.size))
theorem goodPB_ok {h : Hs} {p : Pn} (g : goodPB h p = true) : GoodP h p := by
  unfold goodPB at g
  simp only [Bool.and_eq_true, decide_eq_true_eq] at g
  exact ⟨g.1.1, g.1.2, g.2⟩
end TS
set_option Elab.async false
set_option linter.all false
set_option maxRecDepth 100000
set_option maxHeartbeats 4000000
set_option exponentiation.threshold 10000
/-! the law is called -/
namespace TS
open PySem PySem.Spec PyProof.Rows L2 LamX
theorem cx_none {P : Program} {w : World} {H : Hp} {s : Shared} {e : Value} {s' : Shared} (h : L2N.CX P w [] H s (fun _ _ _ => False) e s') : False := by
  obtain ⟨_, _, _, _, _, _, _, _, _, _, _, _, z⟩ := h
  exact z
theorem tabs_empty {T : List (Addr × Str)} {H : Hp} (h : ∀ p ∈ T, H p.1 = some (.tbl #[])) : Tabs T H := fun p hp => ⟨#[], h p hp, trivial, fun _ _ e => by cases e⟩
theorem law_start {K : PySem.W.Frag} {mg : Str → Option Value} {tf : List He.Defn} {H : Hp} {a : Addr} {ns : List Int} (hl : ns.length ≤ 63) (hT : ∀ p ∈ tf.map (He.cT K), H p.2 = some (.tbl #[])) (hS : SqL K H a (ns.map V.int)) :
    upF ⟨K, mg, Tabs (tabT K tf)⟩ 1 F_law [.ref a] H (fun v _ => v = .bl true) fun _ _ _ => False := by
  have no : ∀ b, ¬ Hid [.val (.scr ns)] ([V.ref a].map some) (fun _ => False) b := fun b z => by
    rcases z with z | ⟨i, ds, e, _⟩
    · exact z
    · match i, e with
      | 0, e => cases e
      | i + 1, e => cases e
  have sub : Sub H (vis H (Hid [.val (.scr ns)] ([V.ref a].map some) fun _ => False)) := fun b o e _ => vis_some.mpr ⟨no b, e⟩
  refine ⟨rfl, [.val (.scr ns)], fun _ => False, fun d _ => d = .bl true, fun _ _ => False, ⟨rfl, fun i d e => ?_, fun i ds e => ?_, fun i j ds es b e => ?_, tabs_empty fun p hp => ?_, fun b z => z.elim⟩, ⟨[.scr ns], rfl, hl, rfl⟩, fun d v as' H' _ _ r e => ?_, fun _ _ _ _ _ _ _ _ z => z⟩
  · match i, e with
    | 0, e =>
      cases e
      exact ⟨.ref a, rfl, a, rfl, sub.sqL hS⟩
    | i + 1, e => cases e
  · match i, e with
    | 0, e => cases e
    | i + 1, e => cases e
  · match i, e with
    | 0, e => cases e
    | i + 1, e => cases e
  · obtain ⟨q, hq, rfl⟩ := List.mem_map.mp hp
    exact hT _ (List.mem_map.mpr ⟨q, hq, rfl⟩)
  · subst e
    exact r
end TS
set_option Elab.async false
set_option linter.all false
set_option maxRecDepth 100000
set_option maxHeartbeats 4000000
set_option exponentiation.threshold 10000
/-! sorted(set(..)) of a list or a tuple of ints -/
namespace TS
open PySem PySem.Spec PyProof.Rows L2
section
variable {P : Program} {w : World} {A : Around} {E : Value → Shared → Prop} {s : Shared}
/-- the set that is laid first, empty -/
abbrev set0 (w : World) : Obj := { cls := .type "set", dict := none, data := .set #[] 0 (.fresh 0 0 (!w.params.followText "set-order")) }
abbrev hp0 (w : World) (h : Heap) : Heap := h.push (set0 w)
set_option maxHeartbeats 8000000 in
theorem call_setL {l : Addr} {its : Array Value} (ks : List Int) {Q : Value → Shared → Prop} (hh : A.handled = none) (hl : s.heap.IsList l its) (hi : IntsAre its.toList ks) (hb : ks.length + 1 < scanBound)
    (fin : ∀ (h' : Heap) (tk c : Nat), SetR w h' s.heap.objs.size (fun j => decide (j ∈ ks)) c → c ≤ ks.length → (∀ b o, s.heap.get? b = some o → h'.get? b = some o) → Q (.ref s.heap.objs.size) { s with heap := h', toks := tk }) :
    wpAny (model P w) A (call (.type "set") [.ref l]) Q E s := by
  have hsz : its.size = ks.length := by
    have q := IntsAre.length hi
    rwa [Array.length_toList] at q
  obtain ⟨c0, tl0, mro0⟩ := F.called_set.mro
  have made0 := F.called_set.made
  have sub0 := F.called_set.sub
  refine wpAny_call (codeAny_of_tree (?_ : wpAny _ _ (callAny (.type "set") _) _ _ _))
  refine wpAny_pure ⟨Code.quiet_builtin _ (by decide +kernel), codeAny_builtin F.entry_type_call ?_⟩
  rw [Around.under_plain (weight_type_call_type "set" [.ref l] []) rfl]
  have f1 := F.called_set.notType
  have f2 := F.called_set.canCreate
  have f3 := F.typeCall_set_1 (.ref l)
  repeat (any_goals (first | assumption | wp_step))
  refine codeAny_mono (code_set_led1 (.ref l) (E := E) (Q₁ := fun ob s1 => ob = .ref s.heap.objs.size ∧ s1 = { s with heap := hp0 w s.heap }) ⟨rfl, rfl⟩) fun r s1 hr => ?_
  match r, hr with
  | .error e, hr => exact hr
  | .ok .next, hr => exact hr.elim
  | .ok .brk, hr => exact hr.elim
  | .ok .cont, hr => exact hr.elim
  | .ok (.ret ob), hr =>
    obtain ⟨rfl, rfl⟩ := hr
    have at0 : (hp0 w s.heap).get? s.heap.objs.size = some (set0 w) := Heap.get?_push_size _ rfl
    have ty0 : Shared.TypeIs { s with heap := hp0 w s.heap } (.ref s.heap.objs.size) "set" := ⟨_, at0, rfl⟩
    have lk0 := F.called_set.init.lookup
    have bd0 := F.called_set.init.bind (.ref s.heap.objs.size)
    repeat (any_goals (first | assumption | wp_step))
    refine codeAny_mono (codeAny_call_builtin (R := wants (fun r s2 => r = .none ∧ ∃ (h2 : Heap) (tk c : Nat), s2 = { s with heap := h2, toks := tk } ∧ SetR w h2 s.heap.objs.size (fun j => decide (j ∈ ks)) c ∧ c ≤ ks.length ∧ ∀ b o, s.heap.get? b = some o → h2.get? b = some o) E)
      F.called_set.init.plain F.entry_set_init (check_set_init_1 ty0 ?_)) fun r2 s2 hr2 => ?_
    · obtain ⟨ol, gl, cl, nl, dl⟩ := hl
      obtain ⟨oc, od, odt, osl⟩ := ol
      simp only at cl dl
      subst cl dl
      have gl1 : (hp0 w s.heap).get? l = some { cls := .type "list", dict := od, data := .seq its nl, slots := osl } := Heap.get?_push_of_some _ gl
      have g1 := F.sub_list_set
      have g2 := F.sub_list_frozenset
      have g3 : (Value.type "list" == Value.type "dict") = false := by decide
      have il1 : (hp0 w s.heap).IsList l its := ⟨_, gl1, rfl, nl, rfl⟩
      have il0 : s.heap.IsList l its := ⟨_, gl, rfl, nl, rfl⟩
      unfold Builtin.«set.__init__» noKeywords Builtin.Frozenset.updateFrom
      generalize hPI : pyIter = PI
      wp_walk
      subst hPI
      refine wpAny_pyIter_list il1 (wpAny_bind (wpAny_runValue ?_))
      have lt0 : l < s.heap.objs.size := Heap.lt_size gl
      have han : A.in1.in1.in1.handled = none := by simp [hh]
      have ne0 : l ≠ (hp0 w s.heap).objs.size := by
        rw [Heap.size_push]
        exact Nat.ne_of_lt (Nat.lt_succ_of_lt lt0)
      have nin : s.heap.objs.size ∉ [(hp0 w s.heap).objs.size, l] := by
        rw [Heap.size_push]
        simp only [List.mem_cons, List.not_mem_nil, or_false, not_or]
        exact And.intro (Nat.ne_of_lt (Nat.lt_succ_self _)) (Nat.ne_of_gt lt0)
      have val : ∀ (i : Nat) (v : Value), its[i]? = some v → ∃ k t, ks[i]? = some k ∧ v = .int k t := fun i v hv => by
        have hi' : i < ks.length := by rw [← hsz]; exact (Array.getElem?_eq_some_iff.mp hv).1
        obtain ⟨t, e⟩ := PyProof.Rows.IntsAre.int_at hi i v (by rw [Array.getElem?_toList]; exact hv)
        refine ⟨ks[i], t, List.getElem?_eq_getElem hi', ?_⟩
        rw [e, List.getD_eq_getElem?_getD, List.getElem?_eq_getElem hi']
        rfl
      refine set_update_ints ((Walks.list han _ l ne0 its).toS) s.heap.objs.size nin ks hsz hb val (its.size - 0) 0 _ (by omega) (Nat.zero_le _) ⟨⟨_, Heap.get?_push_size _ rfl, rfl, rfl⟩, il1.push _⟩ ⟨0, Nat.le_refl 0, setR_new_at (Heap.get?_push_of_some _ at0)⟩ fun s3 c mv hc R3 => ?_
      obtain ⟨h3, gn3, dr3, tk3, os3⟩ := s3
      have e1 : gn3 = s.gens := mv.gens
      have e2 : dr3 = s.drawn := mv.drawn
      have e3 : os3 = s.os := mv.os
      subst e1 e2 e3
      show wpAny _ _ _ _ _ _
      refine wpAny_pure (?_ : wpAny _ _ (ret Value.none) _ _ _)
      rw [hsz] at hc
      refine wpAny_pure ⟨rfl, h3, tk3, c, rfl, R3, hc, fun b o e => ?_⟩
      have lb : b < s.heap.objs.size := Heap.lt_size e
      refine mv.heap b o ?_ (Heap.get?_push_of_some _ (Heap.get?_push_of_some _ e))
      have sz : (hp0 w s.heap).objs.size = s.heap.objs.size + 1 := Heap.size_push ..
      simp only [List.mem_cons, List.not_mem_nil, or_false, not_or]
      exact ⟨Nat.ne_of_lt lb, by rw [sz]; exact Nat.ne_of_lt (Nat.lt_succ_of_lt lb)⟩
    · match r2, hr2 with
      | .error e, hr2 => exact hr2
      | .ok .next, hr2 => exact hr2.elim
      | .ok .brk, hr2 => exact hr2.elim
      | .ok .cont, hr2 => exact hr2.elim
      | .ok (.ret u), hr2 =>
        obtain ⟨rfl, h2, tk, c, rfl, R2, hc, kp⟩ := hr2
        repeat (any_goals (first | assumption | wp_step))
        exact fin _ _ _ R2 hc kp
end
/-! ### in order, each once -/
def sins (k : Int) : List Int → List Int
  | [] => [k]
  | x :: r => if k < x then k :: x :: r else if k = x then x :: r else x :: sins k r
def srt (ks : List Int) : List Int := ks.foldr sins []
theorem mem_sins {k j : Int} : ∀ {l : List Int}, j ∈ sins k l ↔ j = k ∨ j ∈ l
  | [] => by simp [sins]
  | x :: r => by
    unfold sins
    split
    · simp
    · split
      · rename_i h
        subst h
        simp
      · rw [List.mem_cons, mem_sins (l := r), List.mem_cons]
        constructor
        · rintro (h | h | h)
          · exact .inr (.inl h)
          · exact .inl h
          · exact .inr (.inr h)
        · rintro (h | h | h)
          · exact .inr (.inl h)
          · exact .inl h
          · exact .inr (.inr h)
theorem sins_up {k : Int} : ∀ {l : List Int}, l.Pairwise (· < ·) → (sins k l).Pairwise (· < ·)
  | [], _ => by simp [sins]
  | x :: r, h => by
    obtain ⟨h1, h2⟩ := List.pairwise_cons.mp h
    unfold sins
    split
    · rename_i q
      refine List.pairwise_cons.mpr ⟨fun y hy => ?_, h⟩
      rcases List.mem_cons.mp hy with e | e
      · rw [e]
        exact q
      · exact Int.lt_trans q (h1 y e)
    · split
      · exact h
      · rename_i q1 q2
        refine List.pairwise_cons.mpr ⟨fun y hy => ?_, sins_up h2⟩
        rcases mem_sins.mp hy with e | e
        · rw [e]
          omega
        · exact h1 y e
theorem mem_srt {j : Int} : ∀ {ks : List Int}, j ∈ srt ks ↔ j ∈ ks
  | [] => by simp [srt]
  | k :: r => by
    show j ∈ sins k (srt r) ↔ _
    rw [mem_sins, mem_srt (ks := r), List.mem_cons]
theorem srt_up : ∀ {ks : List Int}, (srt ks).Pairwise (· < ·)
  | [] => by simp [srt]
  | k :: r => sins_up (srt_up (ks := r))
/-- one list in order has the same members as another: it is the same -/
theorem up_one : ∀ {a b : List Int}, a.Pairwise (· < ·) → b.Pairwise (· < ·) → (∀ k, k ∈ a ↔ k ∈ b) → a = b
  | [], [], _, _, _ => rfl
  | [], y :: b, _, _, h => by
    have := (h y).mpr List.mem_cons_self
    cases this
  | x :: a, [], _, _, h => by
    have := (h x).mp List.mem_cons_self
    cases this
  | x :: a, y :: b, ha, hb, h => by
    obtain ⟨a1, a2⟩ := List.pairwise_cons.mp ha
    obtain ⟨b1, b2⟩ := List.pairwise_cons.mp hb
    have e : x = y := by
      rcases List.mem_cons.mp ((h x).mp List.mem_cons_self) with e | e
      · exact e
      · rcases List.mem_cons.mp ((h y).mpr List.mem_cons_self) with e2 | e2
        · exact e2.symm
        · have := a1 y e2
          have := b1 x e
          omega
    subst e
    rw [up_one a2 b2 fun k => ⟨fun z => by
      rcases List.mem_cons.mp ((h k).mp (List.mem_cons_of_mem _ z)) with e | e
      · have := a1 k z
        omega
      · exact e, fun z => by
      rcases List.mem_cons.mp ((h k).mpr (List.mem_cons_of_mem _ z)) with e | e
      · have := b1 k z
        omega
      · exact e⟩]
/-! ### the rule -/
def rSetL (K : PySem.W.Frag) (w : World) : List V → Hp → VK → Prop := fun xs H Q => ∃ (l : Addr) (ks : List Int), xs = [.ref l] ∧ (SqL K H l (ks.map V.int) ∨ SqT K H l (ks.map V.int)) ∧ ks.length ≤ 4000 ∧
  ∀ (p : Addr) (n : Nat), H p = none → (∀ L : List Int, L.Nodup → (∀ k, k ∈ L ↔ k ∈ ks) → L.length = n) → Q (.ref p) (upd H p (SetO w p (fun j => decide (j ∈ ks)) n))
theorem setR_count {w : World} {h : Heap} {a : Addr} {ks : List Int} {c : Nat} (R : SetR w h a (fun j => decide (j ∈ ks)) c) {L : List Int} (nd : L.Nodup) (hm : ∀ k, k ∈ L ↔ k ∈ ks) : L.length = c := by
  obtain ⟨o, es, ep, t, _, _, _, _, nd2, hm2, _, _, hn, _, _⟩ := R
  have p : L.Perm (es.toList.map keyOf) := (List.perm_ext_iff_of_nodup nd nd2).mpr fun k => by
    rw [hm k, ← hm2 k, decide_eq_true_eq]
  rw [p.length_eq, List.length_map, Array.length_toList]
  exact hn
section
variable {X : Cx}
theorem cr_setL (hc : X.calm = true) : CallR X (.type "set") (rSetL X.K X.w) := by
  intro pins s σ H xs us Q I r h
  obtain ⟨l, ks, rfl, hs, hl, q⟩ := h
  have hb : ks.length + 1 < scanBound := by unfold scanBound; omega
  rw [Vals.ref1 r]
  rcases hs with hs | hs
  · obtain ⟨its, rv, pl, hz⟩ := I.list hs
    refine call_setL ks (I.ok.hd hc) (show s.heap.IsList l its.toArray from pl.isList) (ints_of_vals rv) hb fun h' tk c R hcn k => ?_
    exact ⟨.ref _, upd H s.heap.objs.size (SetO X.w s.heap.objs.size (fun j => decide (j ∈ ks)) c), I.laid (t' := tk) k (Nat.le_refl _) (setO_new R), rfl, q _ c (I.hok.fresh (Nat.le_refl _)) fun L nd hm => setR_count R nd hm⟩
  · obtain ⟨its, rv, pt, hz⟩ := I.tuple hs
    refine call_set_tupI ks (I.ok.hd hc) (show s.heap.IsTuple l its.toArray from pt) (ints_of_vals rv) hb fun h' tk c R hcn k => ?_
    exact ⟨.ref _, upd H s.heap.objs.size (SetO X.w s.heap.objs.size (fun j => decide (j ∈ ks)) c), I.laid (t' := tk) k (Nat.le_refl _) (setO_new R), rfl, q _ c (I.hok.fresh (Nat.le_refl _)) fun L nd hm => setR_count R nd hm⟩
variable {Z : Zx} {W : WX}
/-- sorted(set(e)), ints -/
def nSS (t : DE) : DA := fun ρ Q E => t ρ (fun d ρ' => ∃ ks : List Int, seqD d = some (ks.map D.int) ∧ (ks.length ≤ 4000 ∧ (srt ks).length < 64) ∧ Q ((srt ks).map D.int) ρ') E
theorem rp_ints {A : Hp} : ∀ ns : List Int, RpL Z A (ns.map D.int) (ns.map V.int)
  | [] => trivial
  | n :: ns => ⟨rfl, rp_ints ns⟩
theorem up_ss [GoodJ Z] [F : Fit X Z] {t : DE} (σ : L2.St) (H : Hp) (Q : VK) (h : upN Z W (nSS t) σ H Q) : tCB (rSortedSet X.w) (tCons (tCB (rSetL X.K X.w) (tCons (upE Z W t) tNil)) tNil) σ H Q := by
  obtain ⟨ρ, G, Qd, E, ok, h, hq, hx⟩ := h
  refine ⟨ρ, G, _, E, ok, h, fun d v ρ1 H1 ok1 s1 r1 h1 => ?_, hx⟩
  obtain ⟨ks, e, ⟨hl, h64⟩, h2⟩ := h1
  have rv : ∃ l, v = .ref l ∧ (SqL X.K H1 l (ks.map V.int) ∨ SqT X.K H1 l (ks.map V.int)) := by
    obtain ⟨k, a, vs, rfl, q, r⟩ := r1.seq e
    have e2 : vs = ks.map V.int := r.ints
    subst e2
    rw [F.K]
    have q2 := q.vis
    cases k with
    | true => exact ⟨a, rfl, .inl q2⟩
    | false => exact ⟨a, rfl, .inr q2⟩
  obtain ⟨l, rfl, hs⟩ := rv
  refine ⟨l, ks, rfl, hs, hl, fun p n hp hn => ?_⟩
  have n1 : (srt ks).length = n := hn _ (srt_up.imp fun h => Int.ne_of_lt h) fun k => mem_srt
  refine ⟨p, _, n, rfl, upd_same, by omega, fun ns p2 hu hm _ hp2 => ?_⟩
  have e3 : ns = srt ks := up_one hu srt_up fun k => by rw [hm k, decide_eq_true_eq, mem_srt]
  subst e3
  have ok2 := ok1.ext (same_upd (o := SetO X.w p (fun j => decide (j ∈ ks)) n) hp)
  have s2 : Stp Z σ ρ H σ ρ1 (upd H1 p (SetO X.w p (fun j => decide (j ∈ ks)) n)) := s1.trans (.ext (same_upd hp))
  obtain ⟨k1, k2, k3⟩ := ok2.laid hp2 (rp_ints (srt ks))
  exact hq _ _ p2 ρ1 _ k1 (s2.trans (.ext (same_upd hp2))) (s2.frs hp2) k2 upd_same k3 h2
theorem de_sortSet [GoodJ Z] [F : Fit X Z] {e : Expr} {t : DE} {p p2 pos pos2 : Pos} (hc : X.calm = true) (hm : Z.mg "sorted" = none) (hm2 : Z.mg "set" = none) (he : PE X e (upE Z W t)) (hg : Gl X "sorted" := by rfl) (hg2 : Gl X "set" := by rfl)
    (hs : starEach [.Call (.Name "set" p2) [e] [] pos2] X.env = (false, eval (.Call (.Name "set" p2) [e] [] pos2) X.env) :: starEach [] X.env := by rfl) (hpl : (backTo pos (starEach [] X.env)).any (·.1) = false := by rfl)
    (hs2 : starEach [e] X.env = (false, eval e X.env) :: starEach [] X.env := by rfl) (hpl2 : (backTo pos2 (starEach [] X.env)).any (·.1) = false := by rfl) :
    PE X (.Call (.Name "sorted" p) [.Call (.Name "set" p2) [e] [] pos2] [] pos) (upN Z W (nSS t)) :=
  PE.wk (pe_callB (cr_sortedSet hc) hg (by rw [F.mg]; exact hm) boot_sorted (pa_cons (pe_callTy (cr_setL hc) hg2 (by rw [F.mg]; exact hm2) PyProof.Rows.boot_set (pa_cons he pa_nil hs2) (by decide) (by decide) hs2 hpl2) pa_nil hs) (by decide) (by decide) hs hpl) up_ss
end
end TS
set_option Elab.async false
set_option linter.all false
set_option maxRecDepth 100000
set_option maxHeartbeats 4000000
set_option exponentiation.threshold 10000
/-! calls of a name that holds one of some defs -/
namespace TS
open PySem PySem.Spec PyProof.Rows L2
abbrev FTab : Type := List (Str × FS)
def dCallV (m : Nat) (tab : FTab) (i : Nat) (t : DA) : DE := fun ρ Q E => ∃ n F, slAt ρ i = .val (.glo n) ∧ tab.lookup n = some F ∧ dCall m F t ρ Q E
/-- the table's defs keep their laws -/
def TabD (P : Program) (w : World) (base : Heap) (Z : Zx) (k m : Nat) (tab : FTab) : Prop := ∀ n F, tab.lookup n = some F → ∃ k', k' ≤ k ∧ Df P w base Z k' n m F
theorem TabD.nil {P : Program} {w : World} {base : Heap} {Z : Zx} {k m : Nat} : TabD P w base Z k m [] := fun n F h => by cases h
theorem TabD.cons {P : Program} {w : World} {base : Heap} {Z : Zx} {k k' m : Nat} {n : Str} {F : FS} {tab : FTab} (d : Df P w base Z k' n m F) (t : TabD P w base Z k m tab) (h : k' ≤ k := by decide) : TabD P w base Z k m ((n, F) :: tab) := fun x G e => by
  rw [List.lookup_cons] at e
  split at e
  · rename_i q
    have q' : x = n := by simpa using q
    subst q'
    have e2 : F = G := Option.some.inj e
    subst e2
    exact ⟨k', h, d⟩
  · exact t x G e
section
variable {X : Cx} {Z : Zx} {W : WX}
theorem de_gloD [Fi : Fit X Z] {x : Str} {k m : Nat} {F : FS} {pos : Pos} (d : Df X.prog X.w X.base Z k x m F) (hg : Gl X x := by rfl) (hd : (x == ("__debug__" : Str)) = false := by decide) : PE X (.Name x pos) (upE Z W (dC (.glo x))) := by
  obtain ⟨f, _, _, _, hm, _⟩ := d.ex
  exact de_glo hm hg hd
theorem up_call {n : Nat} {f : FS} {t : DA} {σ : L2.St} {H : Hp} {Q : VK} (h : upE Z W (dCall n f t) σ H Q) : upA Z W t σ H fun vs H1 => upF Z n f (vs ++ []) H1 Q fun c d H' => W c d σ H' := by
  obtain ⟨ρ, G, Qd, E, ok, h, hq, hx⟩ := h
  refine ⟨ρ, G, _, E, ok, h, fun ds vs ρ1 H1 ok1 s1 r1 h1 => ?_, hx⟩
  obtain ⟨hl', h1⟩ := h1
  rw [List.append_nil]
  refine ⟨by rw [← r1.len]; exact hl', vals ds, Hid ρ1 σ G, _, _, ok1.args r1, h1, fun d v as' H' ok' s' r' q' => ?_, fun x c dd as' H' ok' s' p' q' => ?_⟩
  · obtain ⟨b1, b2, b3⟩ := ok1.back s' ok'.j
    exact hq d v ρ1 H' b1 (s1.trans b2) (r'.sub b3) q'
  · obtain ⟨b1, b2, _⟩ := ok1.back s' ok'.j
    exact hx x c dd ρ1 H' b1 (s1.trans b2) p' q'
theorem de_callV [Fi : Fit X Z] {k m i : Nat} {x : Str} {e : Expr} {es : List Expr} {tab : FTab} {t : DA} {p pos : Pos} (A : TabD X.prog X.w X.base Z k m tab) (tk : L2N.Takes X W) (hr : Room k X.A) (ha : PA X (e :: es) (upA Z W t))
    (hN : X.N[i]? = some x := by rfl) (hv : Vis X.env.scope x := by first | exact Or.inl rfl | exact Or.inr (Or.inl rfl) | exact Or.inr (Or.inr rfl))
    (hdb : (x == ("__debug__" : Str)) = false := by decide) (hcd : (x == ("__classdict__" : Str)) = false := by decide) (he : starEach (e :: es) X.env = (false, eval e X.env) :: starEach es X.env := by rfl) (hpl : (backTo pos (starEach es X.env)).any (·.1) = false := by rfl) :
    PE X (.Call (.Name x p) (e :: es) [] pos) (upE Z W (dCallV m tab i t)) := by
  refine ⟨fun pins s σ H Q I h => ?_⟩
  obtain ⟨ρ, G, Qd, E, ok, ⟨n, F, hsl, hS, ht⟩, hq, hx⟩ := h
  obtain ⟨v, hv1, a, rfl, hma⟩ := ok.val i _ hsl
  obtain ⟨k', hk', d⟩ := A n F hS
  obtain ⟨fa, fd, ps, hF, hm, hk, hb⟩ := d.ex
  have ea : fa = a := by
    rw [hm] at hma
    cases hma
    rfl
  subst ea
  have hK := Fi.K
  have hM := Fi.mg
  rw [← hK, ← hM] at hF
  rw [← hK] at hk hb
  refine wpAny_Call_Name_kw (thn ((pe_var (pos := p) hN hv hdb hcd).run pins s σ H (fun v H1 => v = .ref fa ∧ H1 = H) I ⟨.ref fa, hv1, rfl, rfl⟩) fun u s1 ⟨v, H1, I1, r1, q1⟩ => ?_)
  obtain ⟨rfl, rfl⟩ := q1
  cases r1
  refine PySem.W.callWith_K (h₀ := X.base) I.ok.mod.kin hk (thn (ha.run pos pins s1 σ _ _ I1 (up_call ⟨ρ, G, Qd, E, ok, ht, hq, hx⟩)) fun us s2 ⟨vs, H2, I2, r, q⟩ => ⟨I2.kIn, ?_⟩) he hpl
  exact run_fnSD (dvs := []) (E := fun σ c d H' => W c d σ H') hF (hr.mono hk') hb .nil (L2N.passAt tk σ) I2 r q
end
class MTab (tab : FTab) : Prop where
  m : ∀ n F, tab.lookup n = some F → MF F
instance : MTab [] := ⟨fun n F h => by cases h⟩
instance {n : Str} {F : FS} {tab : FTab} [M : MF F] [N : MTab tab] : MTab ((n, F) :: tab) := ⟨fun x G e => by
  rw [List.lookup_cons] at e
  split at e
  · have e2 : F = G := Option.some.inj e
    rw [← e2]
    exact M
  · exact N.m x G e⟩
instance {m : Nat} {tab : FTab} {i : Nat} {t : DA} [M : MTab tab] [N : MA t] : ME (dCallV m tab i t) := ⟨fun ρ Q Q' E E' hq hx ⟨n, F, h1, h2, h3⟩ => by
  haveI := M.m n F h2
  exact ⟨n, F, h1, h2, (inferInstance : ME (dCall m F t)).m ρ _ _ _ _ hq hx h3⟩⟩
instance {t : DE} [M : ME t] : MA (nSS t) := ⟨fun ρ Q Q' E E' hq hx h => M.m ρ _ _ _ _ (fun d s ⟨ks, e, h, q⟩ => ⟨ks, e, h, hq _ s q⟩) hx h⟩
@[simp] theorem dCallV_s {m : Nat} {tab : FTab} {i : Nat} {t : DA} {ρ : Rho} {Q : D → Rho → Prop} {E : EQ} : dCallV m tab i t ρ Q E = ∃ n F, slAt ρ i = .val (.glo n) ∧ tab.lookup n = some F ∧ dCall m F t ρ Q E := (rfl)
@[simp] theorem nSS_s {t : DE} {ρ : Rho} {Q : List D → Rho → Prop} {E : EQ} : nSS t ρ Q E = t ρ (fun d ρ' => ∃ ks : List Int, seqD d = some (ks.map D.int) ∧ (ks.length ≤ 4000 ∧ (srt ks).length < 64) ∧ Q ((srt ks).map D.int) ρ') E := (rfl)
end TS
set_option Elab.async false
set_option linter.all false
set_option maxRecDepth 100000
set_option maxHeartbeats 1000000
set_option exponentiation.threshold 10000
/-! people in lots: plain theory -/
namespace TS
/-! ### cuts and pieces -/
def wayCuts (size word : Int) (w : Wy) : List Int := if w.word = word then [w.start, (w.start + w.share) % size] else []
def cutsL (size word : Int) (hs : List Hs) : List Int := 0 :: hs.flatMap fun h => h.ways.flatMap (wayCuts size word)
def cutsOf (size word : Int) (hs : List Hs) : List Int := srt (cutsL size word hs)
def pcs (s : Int) : List Int → List (Int × Int)
  | [] => []
  | [c] => [(c, s - c)]
  | c :: d :: r => (c, d - c) :: pcs s (d :: r)
def allP (size : Int) (hs : List Hs) : List (Pn × Int) := [0, 1, 2].flatMap fun k => (pcs size (cutsOf size 0 hs)).flatMap fun a => (pcs size (cutsOf size 1 hs)).map fun b => (⟨k, a.1, b.1⟩, a.2 * b.2)
/-- every number of a house, one by one -/
def nums (size : Int) : List Int := (List.range size.toNat).map fun (i : Nat) => (i : Int)
def persons (size : Int) : List Pn := [0, 1, 2].flatMap fun k => (nums size).flatMap fun a => (nums size).map fun b => ⟨k, a, b⟩
/-- c is where the piece of x begins -/
def Rep (cuts : List Int) (c x : Int) : Prop := c ∈ cuts ∧ c ≤ x ∧ ∀ d ∈ cuts, d ≤ x → d ≤ c
theorem has_rep {s st sh c x : Int} (h1 : 0 ≤ st ∧ st < s) (h2 : 0 ≤ sh ∧ sh ≤ s) (hc : 0 ≤ c) (hx : c ≤ x ∧ x < s) (e1 : st ≤ x → st ≤ c) (e2 : (st + sh) % s ≤ x → (st + sh) % s ≤ c) :
    decide ((x - st) % s < sh) = decide ((c - st) % s < sh) := by
  rw [← has_mod h1 h2 (by omega), ← has_mod h1 h2 (by omega)]
  have e : (st + sh) % s = if st + sh < s then st + sh else st + sh - s := by
    split
    · exact Int.emod_eq_of_lt (by omega) (by omega)
    · rw [← Int.sub_emod_right, Int.emod_eq_of_lt (by omega) (by omega)]
  rw [e] at e2
  unfold hasB
  rw [Bool.eq_iff_iff]
  simp only [Bool.or_eq_true, Bool.and_eq_true, decide_eq_true_eq]
  split at e2 <;> omega
/-- two people are alike in a house -/
def AlikeIn (h : Hs) (p q : Pn) : Prop := ∀ w ∈ h.ways, ∀ acc, fitsB h.size w p acc = fitsB h.size w q acc
theorem seenGo_alike {size : Int} {p q : Pn} {bf : List Int} {bk : Option Int} : ∀ (ws : List Wy) (i : Nat) (acc : List Int), (∀ w ∈ ws, ∀ acc, fitsB size w p acc = fitsB size w q acc) → seenGo size p bf bk i ws acc = seenGo size q bf bk i ws acc
  | [], i, acc, _ => rfl
  | w :: ws, i, acc, h => by
    unfold seenGo
    rw [h w List.mem_cons_self acc]
    exact seenGo_alike ws (i + 1) _ fun v hv => h v (List.mem_cons_of_mem _ hv)
theorem seenAt_alike {h : Hs} {p q : Pn} (a : AlikeIn h p q) (bf : List Int) (bk : Option Int) : seenAt h p bf bk = seenAt h q bf bk := seenGo_alike h.ways 0 [] a
theorem moments_alike {p q : Pn} : ∀ (ts : List Tn) (h : Hs) (last : List Int), (∀ k ∈ along h ts, AlikeIn k p q) → moments p last h ts = moments q last h ts
  | [], h, last, _ => rfl
  | t :: ts, h, last, a => by
    have a2 : ∀ k ∈ along (turn h t) ts, AlikeIn k p q := fun k hk => a k (by simp only [along, List.mem_cons]; exact .inr hk)
    obtain ⟨r, e⟩ := along_head (turn h t) ts
    have a1 : AlikeIn (turn h t) p q := a2 _ (by rw [e]; exact List.mem_cons_self)
    unfold moments
    simp only []
    rw [seenAt_alike a1, moments_alike ts (turn h t) _ a2]
theorem history_alike {p q : Pn} {h : Hs} {ts : List Tn} (a : ∀ k ∈ along h ts, AlikeIn k p q) : history h p ts = history h q ts := by
  obtain ⟨r, e⟩ := along_head h ts
  unfold history
  simp only []
  rw [seenAt_alike (a h (by rw [e]; exact List.mem_cons_self)), moments_alike ts h _ a]
/-- who begins the pieces is like all in them -/
theorem rep_alike {size : Int} {hs : List Hs} {h : Hs} {k a b a' b' : Int} (hm : h ∈ hs) (hz : h.size = size) (g : GoodH h) (ha : Rep (cutsOf size 0 hs) a' a) (hb : Rep (cutsOf size 1 hs) b' b) (a0 : 0 ≤ a') (a1 : a < size) (b0 : 0 ≤ b') (b1 : b < size) : AlikeIn h ⟨k, a, b⟩ ⟨k, a', b'⟩ := fun w hw acc => by
  obtain ⟨i, hi, rfl⟩ := List.mem_iff_getElem.mp hw
  have gw := g.ways i _ (List.getElem?_eq_getElem hi)
  have inc : ∀ word : Int, (h.ways[i]).word = word → (h.ways[i]).start ∈ cutsOf size word hs ∧ ((h.ways[i]).start + (h.ways[i]).share) % size ∈ cutsOf size word hs := fun word e => by
    have z : ∀ x ∈ wayCuts size word h.ways[i], x ∈ cutsOf size word hs := fun x hx => mem_srt.mpr (List.mem_cons_of_mem _ (List.mem_flatMap.mpr ⟨h, hm, List.mem_flatMap.mpr ⟨_, hw, hx⟩⟩))
    unfold wayCuts at z
    rw [if_pos e] at z
    exact ⟨z _ List.mem_cons_self, z _ (List.mem_cons_of_mem _ List.mem_cons_self)⟩
  have st := gw.start
  have sh := gw.share
  rw [hz] at st sh
  have key : decide ((Pn.at ⟨k, a, b⟩ (h.ways[i]).word - (h.ways[i]).start) % h.size < (h.ways[i]).share) = decide ((Pn.at ⟨k, a', b'⟩ (h.ways[i]).word - (h.ways[i]).start) % h.size < (h.ways[i]).share) := by
    rw [hz]
    rcases gw.word with e | e
    · obtain ⟨m1, m2⟩ := inc 0 e
      have e3 : Pn.at ⟨k, a, b⟩ (h.ways[i]).word = a := by rw [e]; rfl
      have e4 : Pn.at ⟨k, a', b'⟩ (h.ways[i]).word = a' := by rw [e]; rfl
      rw [e3, e4]
      exact has_rep st sh a0 ⟨ha.2.1, a1⟩ (fun z => ha.2.2 _ m1 z) (fun z => ha.2.2 _ m2 z)
    · obtain ⟨m1, m2⟩ := inc 1 e
      have e3 : Pn.at ⟨k, a, b⟩ (h.ways[i]).word = b := by rw [e]; rfl
      have e4 : Pn.at ⟨k, a', b'⟩ (h.ways[i]).word = b' := by rw [e]; rfl
      rw [e3, e4]
      exact has_rep st sh b0 ⟨hb.2.1, b1⟩ (fun z => hb.2.2 _ m1 z) (fun z => hb.2.2 _ m2 z)
  unfold fitsB
  rw [key]
/-! ### sums over pieces -/
def sumI {α : Type} (f : α → Int) (l : List α) : Int := (l.map f).sum
@[simp] theorem sumI_nil {α : Type} {f : α → Int} : sumI f [] = 0 := rfl
@[simp] theorem sumI_cons {α : Type} {f : α → Int} {x : α} {l : List α} : sumI f (x :: l) = f x + sumI f l := by simp [sumI]
theorem sumI_app {α : Type} {f : α → Int} : ∀ {l m : List α}, sumI f (l ++ m) = sumI f l + sumI f m
  | [], m => by simp
  | x :: l, m => by rw [List.cons_append, sumI_cons, sumI_cons, sumI_app]; omega
theorem sumI_congr {α : Type} {f g : α → Int} : ∀ {l : List α}, (∀ x ∈ l, f x = g x) → sumI f l = sumI g l
  | [], _ => rfl
  | x :: l, h => by rw [sumI_cons, sumI_cons, h x List.mem_cons_self, sumI_congr fun y hy => h y (List.mem_cons_of_mem _ hy)]
theorem sumI_flat {α β : Type} {f : β → Int} {g : α → List β} : ∀ {l : List α}, sumI f (l.flatMap g) = sumI (fun x => sumI f (g x)) l
  | [] => rfl
  | x :: l => by rw [List.flatMap_cons, sumI_app, sumI_cons, sumI_flat]
theorem sumI_map {α β : Type} {f : β → Int} {g : α → β} : ∀ {l : List α}, sumI f (l.map g) = sumI (fun x => f (g x)) l
  | [] => rfl
  | x :: l => by rw [List.map_cons, sumI_cons, sumI_cons, sumI_map]
theorem sumI_mul {α : Type} {f : α → Int} {c : Int} : ∀ {l : List α}, sumI (fun x => c * f x) l = c * sumI f l
  | [] => by simp
  | x :: l => by rw [sumI_cons, sumI_cons, sumI_mul, Int.mul_add]
/-- the numbers from lo on, so many -/
def from_ (lo : Int) (n : Nat) : List Int := (List.range n).map fun (i : Nat) => lo + (i : Int)
theorem from_succ (lo : Int) (n : Nat) : from_ lo (n + 1) = lo :: from_ (lo + 1) n := by
  unfold from_
  rw [List.range_succ_eq_map, List.map_cons, List.map_map]
  congr 1
  · simp
  · apply List.map_congr_left
    intro i _
    simp only [Function.comp]
    omega
theorem from_add (lo : Int) (n m : Nat) : from_ lo (n + m) = from_ lo n ++ from_ (lo + n) m := by
  induction n generalizing lo with
  | zero => simp [from_]
  | succ n ih =>
    rw [Nat.succ_add, from_succ, from_succ, ih, List.cons_append]
    congr 3
    omega
theorem mem_from {lo x : Int} {n : Nat} : x ∈ from_ lo n ↔ lo ≤ x ∧ x < lo + n := by
  unfold from_
  rw [List.mem_map]
  constructor
  · rintro ⟨i, hi, rfl⟩
    have := List.mem_range.mp hi
    omega
  · rintro ⟨h1, h2⟩
    exact ⟨(x - lo).toNat, List.mem_range.mpr (by omega), by omega⟩
theorem sum_const {f : Int → Int} {v : Int} : ∀ (n : Nat) (lo : Int), (∀ x, lo ≤ x → x < lo + n → f x = v) → sumI f (from_ lo n) = n * v
  | 0, lo, _ => by simp [from_]
  | n + 1, lo, h => by
    rw [from_succ, sumI_cons, sum_const n (lo + 1) fun x h1 h2 => h x (by omega) (by omega), h lo (by omega) (by omega)]
    have : ((n + 1 : Nat) : Int) = (n : Int) + 1 := by omega
    rw [this, Int.add_mul]
    omega
/-- the piece of x -/
theorem pcs_sum {f : Int → Int} {s : Int} : ∀ (c : Int) (r : List Int), (c :: r).Pairwise (· < ·) → (∀ d ∈ c :: r, d < s) → (∀ x y, Rep (c :: r) y x → x < s → f x = f y) → sumI f (from_ c (s - c).toNat) = sumI (fun p => p.2 * f p.1) (pcs s (c :: r))
  | c, [], hp, hs, hf => by
    have hc := hs c List.mem_cons_self
    rw [sum_const (v := f c) _ _ fun x h1 h2 => hf x c ⟨List.mem_cons_self, h1, fun d hd _ => by simp at hd; omega⟩ (by omega)]
    simp only [pcs, sumI_cons, sumI_nil, Int.add_zero]
    congr 1
    omega
  | c, d :: r, hp, hs, hf => by
    obtain ⟨h1, h2⟩ := List.pairwise_cons.mp hp
    have hcd := h1 d List.mem_cons_self
    have hd := hs d (List.mem_cons_of_mem _ List.mem_cons_self)
    have e : (s - c).toNat = (d - c).toNat + (s - d).toNat := by omega
    have e2 : c + ((d - c).toNat : Int) = d := by omega
    rw [e, from_add, sumI_app, e2, pcs_sum d r h2 (fun x hx => hs x (List.mem_cons_of_mem _ hx)) fun x y hy hx => hf x y ⟨List.mem_cons_of_mem _ hy.1, hy.2.1, fun z hz hzx => by
      rcases List.mem_cons.mp hz with q | q
      · rw [q]
        rcases List.mem_cons.mp hy.1 with q2 | q2
        · omega
        · have := (List.pairwise_cons.mp h2).1 y q2
          omega
      · exact hy.2.2 z q hzx⟩ hx]
    rw [sum_const (v := f c) _ _ fun x q1 q2 => hf x c ⟨List.mem_cons_self, q1, fun z hz hzx => by
      rcases List.mem_cons.mp hz with q | q
      · omega
      · rcases List.mem_cons.mp q with q3 | q3
        · omega
        · have := (List.pairwise_cons.mp h2).1 z q3
          omega⟩ (by omega)]
    simp only [pcs, sumI_cons]
    congr 2
    omega
theorem rep_ex {cuts : List Int} {x : Int} (h0 : (0 : Int) ∈ cuts) (hx : 0 ≤ x) : ∃ c, Rep cuts c x ∧ 0 ≤ c := by
  have key : ∀ (l : List Int) (c : Int), 0 ≤ c → c ≤ x → (∀ d ∈ l, d ∈ cuts) → c ∈ cuts → ∃ c', c' ∈ cuts ∧ c' ≤ x ∧ 0 ≤ c' ∧ c ≤ c' ∧ ∀ d ∈ l, d ≤ x → d ≤ c' := by
    intro l
    induction l with
    | nil => intro c c0 cx _ hc; exact ⟨c, hc, cx, c0, Int.le_refl _, by simp⟩
    | cons d l ih =>
      intro c c0 cx hl hc
      by_cases q : d ≤ x ∧ c ≤ d
      · obtain ⟨c', h1, h2, h3, h4, h5⟩ := ih d (by omega) q.1 (fun y hy => hl y (List.mem_cons_of_mem _ hy)) (hl d List.mem_cons_self)
        exact ⟨c', h1, h2, h3, by omega, fun y hy hyx => by
          rcases List.mem_cons.mp hy with e | e
          · omega
          · exact h5 y e hyx⟩
      · obtain ⟨c', h1, h2, h3, h4, h5⟩ := ih c c0 cx (fun y hy => hl y (List.mem_cons_of_mem _ hy)) hc
        exact ⟨c', h1, h2, h3, h4, fun y hy hyx => by
          rcases List.mem_cons.mp hy with e | e
          · omega
          · exact h5 y e hyx⟩
  obtain ⟨c', h1, h2, h3, _, h5⟩ := key cuts 0 (Int.le_refl _) hx (fun d hd => hd) h0
  exact ⟨c', ⟨h1, h2, h5⟩, h3⟩
theorem rep_self {cuts : List Int} {c : Int} (h : c ∈ cuts) : Rep cuts c c := ⟨h, Int.le_refl _, fun _ _ z => z⟩
/-- houses of one size, all good -/
structure Lots (size : Int) (hs : List Hs) : Prop where
  good : ∀ h ∈ hs, GoodH h
  sz : ∀ h ∈ hs, h.size = size
  pos : 0 < size
theorem Lots.cut {size word : Int} {hs : List Hs} (l : Lots size hs) {d : Int} (h : d ∈ cutsOf size word hs) : 0 ≤ d ∧ d < size := by
  have hp := l.pos
  rcases List.mem_cons.mp (mem_srt.mp h) with e | e
  · omega
  · obtain ⟨g, hg, e⟩ := List.mem_flatMap.mp e
    obtain ⟨w, hw, e⟩ := List.mem_flatMap.mp e
    obtain ⟨i, hi, rfl⟩ := List.mem_iff_getElem.mp hw
    have gw := (l.good g hg).ways i _ (List.getElem?_eq_getElem hi)
    have st := gw.start
    rw [l.sz g hg] at st
    unfold wayCuts at e
    split at e
    · rcases List.mem_cons.mp e with e | e
      · omega
      · rw [List.mem_singleton.mp e]
        exact ⟨Int.emod_nonneg _ (by omega), Int.emod_lt_of_pos _ hp⟩
    · cases e
theorem cuts_zero {size word : Int} {hs : List Hs} : (0 : Int) ∈ cutsOf size word hs := mem_srt.mpr List.mem_cons_self
theorem Lots.cuts {size word : Int} {hs : List Hs} (l : Lots size hs) : ∃ r, cutsOf size word hs = 0 :: r := by
  have up := srt_up (ks := cutsL size word hs)
  have h0 := cuts_zero (size := size) (word := word) (hs := hs)
  have hc := fun d => l.cut (word := word) (d := d)
  unfold cutsOf at h0 hc ⊢
  match e : srt (cutsL size word hs) with
  | [] => rw [e] at h0; cases h0
  | c :: r =>
    rw [e] at h0 up hc
    have h1 := (hc c List.mem_cons_self).1
    rcases List.mem_cons.mp h0 with q | q
    · exact ⟨r, by rw [← q]⟩
    · have := (List.pairwise_cons.mp up).1 0 q
      omega
/-- f is the same for all in a lot -/
def Flat (size : Int) (hs : List Hs) {α : Type} (f : Pn → α) : Prop := ∀ k a b a' b', 0 ≤ k → k ≤ 2 → Rep (cutsOf size 0 hs) a' a → Rep (cutsOf size 1 hs) b' b → a < size → b < size → f ⟨k, a, b⟩ = f ⟨k, a', b'⟩
theorem nums_eq {size : Int} : nums size = from_ 0 size.toNat := by
  unfold nums from_
  apply List.map_congr_left
  intro i _
  omega
theorem lot_sum {size word : Int} {hs : List Hs} (l : Lots size hs) {f : Int → Int} (hf : ∀ x y, Rep (cutsOf size word hs) y x → x < size → f x = f y) : sumI f (nums size) = sumI (fun p => p.2 * f p.1) (pcs size (cutsOf size word hs)) := by
  obtain ⟨r, e⟩ := l.cuts (word := word)
  have up : (cutsOf size word hs).Pairwise (· < ·) := srt_up
  have hc := fun d => l.cut (word := word) (d := d)
  rw [e] at up hc hf ⊢
  rw [nums_eq, ← pcs_sum 0 r up (fun d hd => (hc d hd).2) hf]
  congr 3
  omega
theorem kinds3 {k : Int} (h : k ∈ ([0, 1, 2] : List Int)) : 0 ≤ k ∧ k ≤ 2 := by
  simp only [List.mem_cons, List.not_mem_nil, or_false] at h
  omega
/-- all people, one by one or by lots -/
theorem people_sum {size : Int} {hs : List Hs} (l : Lots size hs) {f : Pn → Int} (hf : Flat size hs f) : sumI f (persons size) = sumI (fun p => p.2 * f p.1) (allP size hs) := by
  unfold persons allP
  rw [sumI_flat, sumI_flat]
  refine sumI_congr fun k hk => ?_
  obtain ⟨k0, k2⟩ := kinds3 hk
  rw [sumI_flat, sumI_flat]
  simp only [sumI_map]
  have e1 : ∀ a, 0 ≤ a → a < size → sumI (fun b => f ⟨k, a, b⟩) (nums size) = sumI (fun p => p.2 * f ⟨k, a, p.1⟩) (pcs size (cutsOf size 1 hs)) := fun a a0 a1 => lot_sum l fun x y r hx => by
    obtain ⟨a', ra, _⟩ := rep_ex (x := a) (cuts_zero (size := size) (word := 0) (hs := hs)) a0
    rw [hf k a x a' y k0 k2 ra r a1 hx, hf k a y a' y k0 k2 ra (rep_self r.1) a1 (l.cut r.1).2]
  have e2 := lot_sum (word := 0) l (f := fun a => sumI (fun b => f ⟨k, a, b⟩) (nums size)) fun x y r hx => by
    have hy := l.cut r.1
    refine sumI_congr fun b hb => ?_
    rw [nums_eq] at hb
    have hb := mem_from.mp hb
    obtain ⟨b', rb, _⟩ := rep_ex (x := b) (cuts_zero (size := size) (word := 1) (hs := hs)) hb.1
    rw [hf k x b y b' k0 k2 r rb hx (by omega), hf k y b y b' k0 k2 (rep_self r.1) rb hy.2 (by omega)]
  rw [e2]
  refine sumI_congr fun p hp => ?_
  have pin : p.1 ∈ cutsOf size 0 hs := by
    have : ∀ (c : List Int) (q : Int × Int), q ∈ pcs size c → q.1 ∈ c := by
      intro c
      induction c with
      | nil => intro q hq; cases hq
      | cons x r ih =>
        intro q hq
        cases r with
        | nil => simp [pcs] at hq; subst hq; simp
        | cons y r =>
          simp only [pcs, List.mem_cons] at hq
          rcases hq with e | e
          · subst e; exact List.mem_cons_self
          · exact List.mem_cons_of_mem _ (ih q (by simpa [pcs] using e))
    exact this _ _ hp
  have pc := l.cut pin
  rw [e1 p.1 pc.1 pc.2, ← sumI_mul]
  refine sumI_congr fun q _ => ?_
  rw [Int.mul_assoc]
/-! ### the first one -/
theorem from_none {β : Type} {g : Int → Option β} : ∀ (n : Nat) (lo : Int), (∀ x, lo ≤ x → x < lo + n → g x = none) → (from_ lo n).findSome? g = none
  | 0, lo, _ => by simp [from_]
  | n + 1, lo, h => by
    rw [from_succ, List.findSome?_cons, h lo (by omega) (by omega)]
    exact from_none n (lo + 1) fun x h1 h2 => h x (by omega) (by omega)
theorem pcs_first {β : Type} {g : Int → Option β} {s : Int} : ∀ (c : Int) (r : List Int), (c :: r).Pairwise (· < ·) → (∀ d ∈ c :: r, d < s) → (∀ x y, Rep (c :: r) y x → x < s → g y = none → g x = none) → (from_ c (s - c).toNat).findSome? g = (pcs s (c :: r)).findSome? fun p => g p.1
  | c, [], hp, hs, hf => by
    have hc := hs c List.mem_cons_self
    have e : (s - c).toNat = (s - c - 1).toNat + 1 := by omega
    simp only [pcs, List.findSome?_cons, List.findSome?_nil]
    rw [e, from_succ, List.findSome?_cons]
    cases q : g c with
    | some v => rfl
    | none => exact from_none _ _ fun x h1 h2 => hf x c ⟨List.mem_cons_self, by omega, fun d hd _ => by simp at hd; omega⟩ (by omega) q
  | c, d :: r, hp, hs, hf => by
    obtain ⟨h1, h2⟩ := List.pairwise_cons.mp hp
    have hcd := h1 d List.mem_cons_self
    have hd := hs d (List.mem_cons_of_mem _ List.mem_cons_self)
    have e : (s - c).toNat = (d - c).toNat + (s - d).toNat := by omega
    have e2 : c + ((d - c).toNat : Int) = d := by omega
    have e3 : (d - c).toNat = (d - c - 1).toNat + 1 := by omega
    have ih := pcs_first (g := g) d r h2 (fun x hx => hs x (List.mem_cons_of_mem _ hx)) fun x y hy hx => hf x y ⟨List.mem_cons_of_mem _ hy.1, hy.2.1, fun z hz hzx => by
      rcases List.mem_cons.mp hz with q | q
      · rw [q]
        rcases List.mem_cons.mp hy.1 with q2 | q2
        · omega
        · have := (List.pairwise_cons.mp h2).1 y q2
          omega
      · exact hy.2.2 z q hzx⟩ hx
    rw [e, from_add, List.findSome?_append, e2, ih]
    simp only [pcs, List.findSome?_cons]
    rw [e3, from_succ, List.findSome?_cons]
    cases q : g c with
    | some v => rfl
    | none =>
      simp only []
      rw [from_none _ _ fun x q1 q2 => hf x c ⟨List.mem_cons_self, by omega, fun z hz hzx => by
        rcases List.mem_cons.mp hz with w | w
        · omega
        · rcases List.mem_cons.mp w with w2 | w2
          · omega
          · have := (List.pairwise_cons.mp h2).1 z w2
            omega⟩ (by omega) q]
      rfl
theorem lot_first {β : Type} {size word : Int} {hs : List Hs} (l : Lots size hs) {g : Int → Option β} (hf : ∀ x y, Rep (cutsOf size word hs) y x → x < size → g y = none → g x = none) : (nums size).findSome? g = (pcs size (cutsOf size word hs)).findSome? fun p => g p.1 := by
  obtain ⟨r, e⟩ := l.cuts (word := word)
  have up : (cutsOf size word hs).Pairwise (· < ·) := srt_up
  have hc := fun d => l.cut (word := word) (d := d)
  rw [e] at up hc hf ⊢
  rw [nums_eq, ← pcs_first 0 r up (fun d hd => (hc d hd).2) hf]
  congr 2
  omega
theorem findSome_flat {α β γ : Type} {f : α → List β} {g : β → Option γ} : ∀ {l : List α}, (l.flatMap f).findSome? g = l.findSome? fun a => (f a).findSome? g
  | [] => rfl
  | a :: l => by
    rw [List.flatMap_cons, List.findSome?_append, List.findSome?_cons, findSome_flat]
    cases (f a).findSome? g <;> rfl
theorem findSome_map {α β γ : Type} {f : α → β} {g : β → Option γ} {l : List α} : (l.map f).findSome? g = l.findSome? fun a => g (f a) := by
  induction l with
  | nil => rfl
  | cons a l ih => rw [List.map_cons, List.findSome?_cons, List.findSome?_cons, ih]
theorem findSome_congr {α β : Type} {g g' : α → Option β} : ∀ {l : List α}, (∀ a ∈ l, g a = g' a) → l.findSome? g = l.findSome? g'
  | [], _ => rfl
  | a :: l, h => by rw [List.findSome?_cons, List.findSome?_cons, h a List.mem_cons_self, findSome_congr fun b hb => h b (List.mem_cons_of_mem _ hb)]
theorem people_first {β : Type} {size : Int} {hs : List Hs} (l : Lots size hs) {g : Pn → Option β} (hf : Flat size hs fun p => (g p).isNone) : (persons size).findSome? g = (allP size hs).findSome? fun p => g p.1 := by
  unfold persons allP
  rw [findSome_flat, findSome_flat]
  refine findSome_congr fun k hk => ?_
  obtain ⟨k0, k2⟩ := kinds3 hk
  rw [findSome_flat, findSome_flat]
  simp only [findSome_map]
  have non : ∀ {x y : Option β}, x.isNone = y.isNone → y = none → x = none := fun {x y} e h => by
    subst h
    cases x
    · rfl
    · cases e
  have e1 : ∀ a, 0 ≤ a → a < size → (nums size).findSome? (fun b => g ⟨k, a, b⟩) = (pcs size (cutsOf size 1 hs)).findSome? (fun p => g ⟨k, a, p.1⟩) := fun a a0 a1 => lot_first l fun x y r hx => non (by
    obtain ⟨a', ra, _⟩ := rep_ex (x := a) (cuts_zero (size := size) (word := 0) (hs := hs)) a0
    have z1 := hf k a x a' y k0 k2 ra r a1 hx
    have z2 := hf k a y a' y k0 k2 ra (rep_self r.1) a1 (l.cut r.1).2
    exact z1.trans z2.symm)
  have e2 := lot_first (word := 0) l (g := fun a => (nums size).findSome? fun b => g ⟨k, a, b⟩) fun x y r hx hn => by
    have hy := l.cut r.1
    rw [List.findSome?_eq_none_iff] at hn ⊢
    intro b hb
    have hb' := hb
    rw [nums_eq] at hb'
    have hb' := mem_from.mp hb'
    obtain ⟨b', rb, _⟩ := rep_ex (x := b) (cuts_zero (size := size) (word := 1) (hs := hs)) hb'.1
    have z1 := hf k x b y b' k0 k2 r rb hx (by omega)
    have z2 := hf k y b y b' k0 k2 (rep_self r.1) rb hy.2 (by omega)
    exact non (z1.trans z2.symm) (hn b hb)
  rw [e2]
  refine findSome_congr fun p hp => ?_
  have pin : p.1 ∈ cutsOf size 0 hs := by
    have : ∀ (c : List Int) (q : Int × Int), q ∈ pcs size c → q.1 ∈ c := by
      intro c
      induction c with
      | nil => intro q hq; cases hq
      | cons x r ih =>
        intro q hq
        cases r with
        | nil => simp [pcs] at hq; subst hq; simp
        | cons y r =>
          simp only [pcs, List.mem_cons] at hq
          rcases hq with e | e
          · subst e; exact List.mem_cons_self
          · exact List.mem_cons_of_mem _ (ih q (by simpa [pcs] using e))
    exact this _ _ hp
  have pc := l.cut pin
  exact e1 p.1 pc.1 pc.2
/-- what is seen by a row is the same for all in a lot -/
theorem flat_history {size : Int} {hs : List Hs} (l : Lots size hs) {h : Hs} {ts : List Tn} (hm : ∀ k ∈ along h ts, k ∈ hs) : Flat size hs fun p => history h p ts := fun k a b a' b' _ _ ra rb ha hb =>
  history_alike fun g hg => rep_alike (hm g hg) (l.sz g (hm g hg)) (l.good g (hm g hg)) ra rb (l.cut ra.1).1 ha (l.cut rb.1).1 hb
end TS
set_option Elab.async false
set_option linter.all false
set_option maxRecDepth 100000
set_option maxHeartbeats 1000000
set_option exponentiation.threshold 10000
/-! people in lots: what the defs give -/
namespace TS
open PySem PySem.Spec PyProof.Rows L2
@[simp] theorem tYesD_s {ρ : Rho} {Q : Bool → Rho → Prop} {E : EQ} : tYesD ρ Q E = Q true ρ := (rfl)
def pairD (p : Int × Int) : D := .tup [.int p.1, .int p.2]
def pmD (p : Pn × Int) : D := .tup [p.1.d, .int p.2]
def hisD (h : Hs) (ts : List Tn) (p : Pn × Int) : D := .tup [p.1.d, .int p.2, .lst ((history h p.1 ts).map intsD)]
def lawD (h : Hs) (ts : List Tn) (p : Pn) : D := .tup [p.d, .tup ((history h p ts).map intsD)]
/-! ### what is refused -/
abbrev Need (hd rd : D) (E : Exc → Prop) (K : Hs → List Tn → Prop) : Prop :=
  (pd hd ∧ pd rd ∧ hasHouse hd = false ∧ E ⟨"InvalidHouse", none⟩) ∨ ∃ h : Hs, hd = h.d ∧ GoodH h ∧ ((pd rd ∧ hasRow h.size h.ways.length rd = false ∧ E ⟨"InvalidRow", none⟩) ∨ ∃ ts : List Tn, rd = .tup (ts.map Tn.d) ∧ GoodR h ts ∧ K h ts)
def okWay (many : Nat) (d : D) : Bool := isWhole d 0 ((many : Int) - 1)
abbrev NeedW (many : Nat) (ds : List D) (E : Exc → Prop) (K : List Int → Prop) : Prop :=
  (∀ d ∈ ds, pd d) ∧ ((ds.all (okWay many) = false ∧ E ⟨"InvalidWay", none⟩) ∨ ∃ ws : List Int, ds = ws.map D.int ∧ (∀ w ∈ ws, 0 ≤ w ∧ w < many) ∧ K ws)
theorem need_row_ok {hd rd : D} {E : Exc → Prop} {K : Hs → List Tn → Prop} {Q : D → Prop} (n : Need hd rd E K) (k : ∀ h ts, hd = h.d → rd = .tup (ts.map Tn.d) → GoodH h → GoodR h ts → K h ts → Q .non) : S_need_row [hd, rd] Q E := by
  rcases n with ⟨h1, h2, h3, h4⟩ | ⟨h, rfl, g, ⟨h2, h3, h4⟩ | ⟨ts, rfl, gr, z⟩⟩
  · exact ⟨h1, h2, fun _ => h4, fun z => (by rw [h3] at z; cases z), fun z => (by rw [h3] at z; cases z)⟩
  · refine ⟨pd_house g, h2, fun z => (by rw [house_ok g] at z; cases z), fun _ _ => h4, fun _ z => ?_⟩
    have e : hasRow (hSize h.d) (hMany h.d) rd = hasRow h.size h.ways.length rd := by simp [Hs.d, hSize, hMany]
    rw [e, h3] at z
    cases z
  · have e : hasRow (hSize h.d) (hMany h.d) (.tup (ts.map Tn.d)) = true := by
      have e2 : hasRow (hSize h.d) (hMany h.d) (.tup (ts.map Tn.d)) = hasRow h.size h.ways.length (.tup (ts.map Tn.d)) := by simp [Hs.d, hSize, hMany]
      rw [e2]
      exact row_ok g gr
    exact ⟨pd_house g, pd_tns g gr, fun z => (by rw [house_ok g] at z; cases z), fun _ z => (by rw [e] at z; cases z), fun _ _ => k h ts rfl rfl g gr z⟩
def S_need_ways : SV
  | [hd, .tup ds], Q, E => ∃ size ws, Hsh hd size ws ∧ (∀ d ∈ ds, pd d) ∧ (ds.all (okWay ws.length) = true → Q .non) ∧ (ds.all (okWay ws.length) = false → E ⟨"InvalidWay", none⟩)
  | _, _, _ => False
abbrev F_need_ways : FS := FV S_need_ways
instance : MSV S_need_ways := ⟨fun ds Q Q' E E' hq hx => by
  unfold S_need_ways
  split <;> repeat' (first | exact fun h => h | exact fun h => h.elim | exact hq _ | exact hq _ _ | exact hx _ | exact hx _ _ | apply And.imp | apply Or.imp | (apply Exists.imp; intro _) | (apply forall_imp; intro _))⟩
theorem okWay_ints {many : Nat} {ws : List Int} (h : ∀ w ∈ ws, 0 ≤ w ∧ w < many) : (ws.map D.int).all (okWay many) = true := by
  rw [List.all_map, List.all_eq_true]
  intro w hw
  have := h w hw
  simp only [Function.comp, okWay]
  exact isWhole_i.mpr (by omega)
theorem need_ways_ok {h : Hs} {ds : List D} {E : Exc → Prop} {K : List Int → Prop} {Q : D → Prop} (n : NeedW h.ways.length ds E K) (k : ∀ ws : List Int, ds = ws.map D.int → (∀ w ∈ ws, 0 ≤ w ∧ w < h.ways.length) → K ws → Q .non) : S_need_ways [h.d, .tup ds] Q E := by
  obtain ⟨hp, ⟨h1, h2⟩ | ⟨ws, rfl, hw, z⟩⟩ := n
  · exact ⟨h.size, h.ways.map Wy.d, rfl, hp, fun q => (by rw [List.length_map, h1] at q; cases q), fun _ => h2⟩
  · exact ⟨h.size, h.ways.map Wy.d, rfl, hp, fun _ => k ws rfl hw z, fun q => (by rw [List.length_map, okWay_ints hw] at q; cases q)⟩
/-! ### lots -/
structure Few (size : Int) (hs : List Hs) : Prop where
  lots : Lots size hs
  ne : hs ≠ []
  len : hs.length ≤ 100
  c0 : (cutsOf size 0 hs).length < 64
  c1 : (cutsOf size 1 hs).length < 64
def S_cuts_of : SV
  | [.lst hds, .int word], Q, _ => ∃ size hs, hds = hs.map Hs.d ∧ Few size hs ∧ (word = 0 ∨ word = 1) ∧ Q (.lst ((cutsOf size word hs).map .int))
  | _, _, _ => False
abbrev F_cuts_of : FS := FV S_cuts_of
instance : MSV S_cuts_of := ⟨fun ds Q Q' E E' hq hx => by
  unfold S_cuts_of
  split <;> repeat' (first | exact fun h => h | exact fun h => h.elim | exact hq _ | exact hq _ _ | exact hx _ | exact hx _ _ | apply And.imp | apply Or.imp | (apply Exists.imp; intro _) | (apply forall_imp; intro _))⟩
def S_pieces : SV
  | [.lst hds, .int word], Q, _ => ∃ size hs, hds = hs.map Hs.d ∧ Few size hs ∧ (word = 0 ∨ word = 1) ∧ Q (.lst ((pcs size (cutsOf size word hs)).map pairD))
  | _, _, _ => False
abbrev F_pieces : FS := FV S_pieces
instance : MSV S_pieces := ⟨fun ds Q Q' E E' hq hx => by
  unfold S_pieces
  split <;> repeat' (first | exact fun h => h | exact fun h => h.elim | exact hq _ | exact hq _ _ | exact hx _ | exact hx _ _ | apply And.imp | apply Or.imp | (apply Exists.imp; intro _) | (apply forall_imp; intro _))⟩
def S_all_people : SV
  | [.lst hds], Q, _ => ∃ size hs, hds = hs.map Hs.d ∧ Few size hs ∧ Q (.lst ((allP size hs).map pmD))
  | _, _, _ => False
abbrev F_all_people : FS := FV S_all_people
instance : MSV S_all_people := ⟨fun ds Q Q' E E' hq hx => by
  unfold S_all_people
  split <;> repeat' (first | exact fun h => h | exact fun h => h.elim | exact hq _ | exact hq _ _ | exact hx _ | exact hx _ _ | apply And.imp | apply Or.imp | (apply Exists.imp; intro _) | (apply forall_imp; intro _))⟩
def S_histories : SV
  | [hd, rd], Q, _ => ∃ (h : Hs) (ts : List Tn), hd = h.d ∧ rd = .tup (ts.map Tn.d) ∧ GoodH h ∧ GoodR h ts ∧ Q (.lst ((allP h.size (along h ts)).map (hisD h ts)))
  | _, _, _ => False
abbrev F_histories : FS := FV S_histories
instance : MSV S_histories := ⟨fun ds Q Q' E E' hq hx => by
  unfold S_histories
  split <;> repeat' (first | exact fun h => h | exact fun h => h.elim | exact hq _ | exact hq _ _ | exact hx _ | exact hx _ _ | apply And.imp | apply Or.imp | (apply Exists.imp; intro _) | (apply forall_imp; intro _))⟩
def lastSeen (h : Hs) (ts : List Tn) (p : Pn) : List Int := (history h p ts).getLastD []
def seesAll (h : Hs) (ts : List Tn) (ws : List Int) (kind : Int) (p : Pn) : Bool := p.kind == kind && ws.all fun w => (lastSeen h ts p).contains w
def one (b : Bool) : Int := if b then 1 else 0
def seersN (h : Hs) (ts : List Tn) (ws : List Int) (kind : Int) : Int := sumI (fun pm => pm.2 * one (seesAll h ts ws kind pm.1)) (allP h.size (along h ts))
def S_seers : SV
  | [hd, rd, .tup wds, .int kind], Q, _ => ∃ (h : Hs) (ts : List Tn) (ws : List Int), hd = h.d ∧ rd = .tup (ts.map Tn.d) ∧ wds = ws.map D.int ∧ ws.length ≤ 100 ∧ GoodH h ∧ GoodR h ts ∧ Q (.int (seersN h ts ws kind))
  | _, _, _ => False
abbrev F_seers : FS := FV S_seers
instance : MSV S_seers := ⟨fun ds Q Q' E E' hq hx => by
  unfold S_seers
  split <;> repeat' (first | exact fun h => h | exact fun h => h.elim | exact hq _ | exact hq _ _ | exact hx _ | exact hx _ _ | apply And.imp | apply Or.imp | (apply Exists.imp; intro _) | (apply forall_imp; intro _))⟩
def lowest (t b : Int) : Int × Int := (t / (Int.gcd t b : Int), b / (Int.gcd t b : Int))
def S_divided : SV
  | [.int t, .int b], Q, _ => (0 < b ∧ b < 2 ^ 4000) ∧ Q (pairD (lowest t b))
  | _, _, _ => False
abbrev F_divided : FS := FV S_divided
abbrev F_law_lowest : FS := FV S_divided
instance : MSV S_divided := ⟨fun ds Q Q' E E' hq hx => by
  unfold S_divided
  split <;> repeat' (first | exact fun h => h | exact fun h => h.elim | exact hq _ | exact hq _ _ | exact hx _ | exact hx _ _ | apply And.imp | apply Or.imp | (apply Exists.imp; intro _) | (apply forall_imp; intro _))⟩
def hangF (h : Hs) (ts : List Tn) (a b kind : Int) : Int × Int := lowest (seersN h ts [a, b] kind * (h.size * h.size) - seersN h ts [a] kind * seersN h ts [b] kind) (h.size * h.size * (h.size * h.size))
def S_hanging : SV
  | [hd, rd, .int a, .int b, .int kind], Q, _ => ∃ (h : Hs) (ts : List Tn), hd = h.d ∧ rd = .tup (ts.map Tn.d) ∧ GoodH h ∧ GoodR h ts ∧ Q (pairD (hangF h ts a b kind))
  | _, _, _ => False
abbrev F_hanging : FS := FV S_hanging
instance : MSV S_hanging := ⟨fun ds Q Q' E E' hq hx => by
  unfold S_hanging
  split <;> repeat' (first | exact fun h => h | exact fun h => h.elim | exact hq _ | exact hq _ _ | exact hx _ | exact hx _ _ | apply And.imp | apply Or.imp | (apply Exists.imp; intro _) | (apply forall_imp; intro _))⟩
abbrev NeedK (d : D) (E : Exc → Prop) (K : Int → Prop) : Prop := pd d ∧ ((isWhole d 0 2 = false ∧ E ⟨"InvalidKind", none⟩) ∨ ∃ k : Int, d = .int k ∧ (0 ≤ k ∧ k ≤ 2) ∧ K k)
def S_need_kind : SV
  | [hd, rd, a, b, kd], Q, E => Need hd rd E fun h ts => NeedW h.ways.length [a, b] E fun _ => NeedK kd E fun _ => Q .non
  | _, _, _ => False
abbrev F_need_kind : FS := FV S_need_kind
instance : MSV S_need_kind := ⟨fun ds Q Q' E E' hq hx => by
  unfold S_need_kind
  split <;> repeat' (first | exact fun h => h | exact fun h => h.elim | exact hq _ | exact hq _ _ | exact hx _ | exact hx _ _ | apply And.imp | apply Or.imp | (apply Exists.imp; intro _) | (apply forall_imp; intro _))⟩
def S_hang : SV
  | [hd, rd, a, b, kd], Q, E => Need hd rd E fun h ts => NeedW h.ways.length [a, b] E fun ws => NeedK kd E fun k => ∀ x y, ws = [x, y] → Q (pairD (hangF h ts x y k))
  | _, _, _ => False
abbrev F_hang : FS := FV S_hang
instance : MSV S_hang := ⟨fun ds Q Q' E E' hq hx => by
  unfold S_hang
  split <;> repeat' (first | exact fun h => h | exact fun h => h.elim | exact hq _ | exact hq _ _ | exact hx _ | exact hx _ _ | apply And.imp | apply Or.imp | (apply Exists.imp; intro _) | (apply forall_imp; intro _))⟩
def S_apart : SV
  | [hd, rd, a, b, kd], Q, E => Need hd rd E fun h ts => NeedW h.ways.length [a, b] E fun ws => NeedK kd E fun k => ∀ x y, ws = [x, y] → Q (.bl ((hangF h ts x y k).1 == 0))
  | _, _, _ => False
abbrev F_apart : FS := FV S_apart
instance : MSV S_apart := ⟨fun ds Q Q' E E' hq hx => by
  unfold S_apart
  split <;> repeat' (first | exact fun h => h | exact fun h => h.elim | exact hq _ | exact hq _ _ | exact hx _ | exact hx _ _ | apply And.imp | apply Or.imp | (apply Exists.imp; intro _) | (apply forall_imp; intro _))⟩
def S_apart_kinds : SV
  | [hd, rd, a, b], Q, E => Need hd rd E fun h ts => NeedW h.ways.length [a, b] E fun ws => ∀ x y, ws = [x, y] → Q (.lst ((([0, 1, 2] : List Int).filter fun k => (hangF h ts x y k).1 == 0).map .int))
  | _, _, _ => False
abbrev F_apart_kinds : FS := FV S_apart_kinds
instance : MSV S_apart_kinds := ⟨fun ds Q Q' E E' hq hx => by
  unfold S_apart_kinds
  split <;> repeat' (first | exact fun h => h | exact fun h => h.elim | exact hq _ | exact hq _ _ | exact hx _ | exact hx _ _ | apply And.imp | apply Or.imp | (apply Exists.imp; intro _) | (apply forall_imp; intro _))⟩
/-! ### the law's defs -/
def S_law_people : SV
  | [.int size], Q, _ => (0 < size ∧ size ≤ 100) ∧ Q (.lst ((persons size).map Pn.d))
  | _, _, _ => False
abbrev F_law_people : FS := FV S_law_people
instance : MSV S_law_people := ⟨fun ds Q Q' E E' hq hx => by
  unfold S_law_people
  split <;> repeat' (first | exact fun h => h | exact fun h => h.elim | exact hq _ | exact hq _ _ | exact hx _ | exact hx _ _ | apply And.imp | apply Or.imp | (apply Exists.imp; intro _) | (apply forall_imp; intro _))⟩
def S_law_all_seen : SV
  | [hd, rd], Q, _ => ∃ (h : Hs) (ts : List Tn), hd = h.d ∧ rd = .tup (ts.map Tn.d) ∧ GoodH h ∧ GoodR h ts ∧ h.size ≤ 100 ∧ Q (.lst ((persons h.size).map (lawD h ts)))
  | _, _, _ => False
abbrev F_law_all_seen : FS := FV S_law_all_seen
instance : MSV S_law_all_seen := ⟨fun ds Q Q' E E' hq hx => by
  unfold S_law_all_seen
  split <;> repeat' (first | exact fun h => h | exact fun h => h.elim | exact hq _ | exact hq _ _ | exact hx _ | exact hx _ _ | apply And.imp | apply Or.imp | (apply Exists.imp; intro _) | (apply forall_imp; intro _))⟩
def S_law_hang : SV
  | [hd, rd, .int a, .int b, .int kind], Q, _ => ∃ (h : Hs) (ts : List Tn), hd = h.d ∧ rd = .tup (ts.map Tn.d) ∧ GoodH h ∧ GoodR h ts ∧ h.size ≤ 100 ∧ (0 ≤ kind ∧ kind ≤ 2) ∧ Q (pairD (hangF h ts a b kind))
  | _, _, _ => False
abbrev F_law_hang : FS := FV S_law_hang
instance : MSV S_law_hang := ⟨fun ds Q Q' E E' hq hx => by
  unfold S_law_hang
  split <;> repeat' (first | exact fun h => h | exact fun h => h.elim | exact hq _ | exact hq _ _ | exact hx _ | exact hx _ _ | apply And.imp | apply Or.imp | (apply Exists.imp; intro _) | (apply forall_imp; intro _))⟩
def S_law_truly : SV
  | [.bl a, .bl b], Q, _ => Q (.bl (a == b))
  | _, _, _ => False
abbrev F_law_truly : FS := FV S_law_truly
instance : MSV S_law_truly := ⟨fun ds Q Q' E E' hq hx => by
  unfold S_law_truly
  split <;> repeat' (first | exact fun h => h | exact fun h => h.elim | exact hq _ | exact hq _ _ | exact hx _ | exact hx _ _ | apply And.imp | apply Or.imp | (apply Exists.imp; intro _) | (apply forall_imp; intro _))⟩
/-! ### facts -/
theorem sins_len {k : Int} : ∀ {l : List Int}, (sins k l).length ≤ l.length + 1
  | [] => by simp [sins]
  | x :: r => by
    have := sins_len (k := k) (l := r)
    unfold sins
    split
    · simp
    · split <;> simp <;> omega
theorem srt_len : ∀ {l : List Int}, (srt l).length ≤ l.length
  | [] => by simp [srt]
  | k :: r => by
    have h1 := srt_len (l := r)
    have h2 := sins_len (k := k) (l := srt r)
    show (sins k (srt r)).length ≤ r.length + 1
    omega
theorem wayCuts_len {size word : Int} {w : Wy} : (wayCuts size word w).length ≤ 2 := by
  unfold wayCuts
  split <;> simp
theorem flat_len {α β : Type} {f : α → List β} {n : Nat} : ∀ {l : List α}, (∀ x ∈ l, (f x).length ≤ n) → (l.flatMap f).length ≤ n * l.length
  | [], _ => by simp
  | x :: l, h => by
    rw [List.flatMap_cons, List.length_append, List.length_cons, Nat.mul_succ]
    have h1 := h x List.mem_cons_self
    have h2 := flat_len (l := l) fun y hy => h y (List.mem_cons_of_mem _ hy)
    omega
theorem cutsL_len {size word : Int} {hs : List Hs} (g : ∀ h ∈ hs, GoodH h) : (cutsL size word hs).length ≤ 6 * hs.length + 1 := by
  unfold cutsL
  rw [List.length_cons]
  have := flat_len (n := 6) (l := hs) (f := fun h => h.ways.flatMap (wayCuts size word)) fun h hh => by
    have h1 := flat_len (n := 2) (l := h.ways) (f := wayCuts size word) fun w _ => wayCuts_len
    have h2 := (g h hh).many
    omega
  omega
theorem along_cnt : ∀ {ts : List Tn} {h : Hs}, (along h ts).length = ts.length + 1
  | [], h => rfl
  | t :: ts, h => by
    simp only [along, List.length_cons]
    rw [along_cnt]
theorem along_lots {h : Hs} {ts : List Tn} (g : GoodH h) (gr : GoodR h ts) : Lots h.size (along h ts) := ⟨along_good g gr.2, fun k hk => along_size hk, by have := g.size; omega⟩
theorem along_few {h : Hs} {ts : List Tn} (g : GoodH h) (gr : GoodR h ts) : Few h.size (along h ts) := by
  have l := along_lots g gr
  have n := along_cnt (h := h) (ts := ts)
  have h6 := gr.1
  have c : ∀ word, (cutsOf h.size word (along h ts)).length < 64 := fun word => by
    have h1 := srt_len (l := cutsL h.size word (along h ts))
    have h2 := cutsL_len (size := h.size) (word := word) l.good
    unfold cutsOf
    omega
  exact ⟨l, fun z => by rw [z] at n; simp at n, by omega, c 0, c 1⟩
theorem pcs_in {s : Int} : ∀ {c : List Int}, c.Pairwise (· < ·) → (∀ d ∈ c, 0 ≤ d ∧ d < s) → ∀ p ∈ pcs s c, p.1 ∈ c ∧ 0 < p.2 ∧ p.2 ≤ s
  | [], _, _, p, hp => by cases hp
  | [c], _, h, p, hp => by
    have := h c List.mem_cons_self
    simp [pcs] at hp
    subst hp
    refine ⟨List.mem_cons_self, ?_, ?_⟩
    · show 0 < s - c
      omega
    · show s - c ≤ s
      omega
  | c :: d :: r, up, h, p, hp => by
    obtain ⟨h1, h2⟩ := List.pairwise_cons.mp up
    have b1 := h c List.mem_cons_self
    have b2 := h d (List.mem_cons_of_mem _ List.mem_cons_self)
    have b3 := h1 d List.mem_cons_self
    have hp' : p ∈ (c, d - c) :: pcs s (d :: r) := hp
    rcases List.mem_cons.mp hp' with e | e
    · subst e
      refine ⟨List.mem_cons_self, ?_, ?_⟩
      · show 0 < d - c
        omega
      · show d - c ≤ s
        omega
    · obtain ⟨q1, q2⟩ := pcs_in h2 (fun x hx => h x (List.mem_cons_of_mem _ hx)) p e
      exact ⟨List.mem_cons_of_mem _ q1, q2⟩
theorem Few.pc {size word : Int} {hs : List Hs} (f : Few size hs) {p : Int × Int} (h : p ∈ pcs size (cutsOf size word hs)) : (0 ≤ p.1 ∧ p.1 < size) ∧ 0 < p.2 ∧ p.2 ≤ size := by
  obtain ⟨h1, h2⟩ := pcs_in srt_up (fun d hd => f.lots.cut hd) p h
  exact ⟨f.lots.cut h1, h2⟩
theorem Few.big {size : Int} {hs : List Hs} (f : Few size hs) : size ≤ 1000000000000000000000000000000 := by
  cases e : hs with
  | nil => exact absurd e f.ne
  | cons h r =>
    have hm : h ∈ hs := by rw [e]; exact List.mem_cons_self
    have := (f.lots.good h hm).size
    rw [f.lots.sz h hm] at this
    exact this.2
theorem big_abs {i : Int} (h0 : 0 ≤ i) (h : i ≤ 1000000000000000000000000000000) : i.natAbs < 2 ^ 4000 := by
  have h1 : i.natAbs < 2 ^ 100 := by
    have e : (2 : Nat) ^ 100 = 1267650600228229401496703205376 := by decide +kernel
    rw [e]
    omega
  exact Nat.lt_trans h1 (by decide +kernel)
theorem pcs_len {s : Int} : ∀ {c : List Int}, (pcs s c).length = c.length
  | [] => rfl
  | [c] => rfl
  | c :: d :: r => by
    show ((c, d - c) :: pcs s (d :: r)).length = _
    rw [List.length_cons, pcs_len]
    rfl
abbrev lotsK (size : Int) (hs : List Hs) (k : Int) : List (Pn × Int) := (pcs size (cutsOf size 0 hs)).flatMap fun a => (pcs size (cutsOf size 1 hs)).map fun b => (⟨k, a.1, b.1⟩, a.2 * b.2)
theorem allP_len {size : Int} {hs : List Hs} (f : Few size hs) : (allP size hs).length ≤ 12000 := by
  have h1 := f.c0
  have h2 := f.c1
  have e : ∀ k : Int, (lotsK size hs k).length ≤ 63 * 63 := fun k => by
    have z := flat_len (n := 63) (l := pcs size (cutsOf size 0 hs)) (f := fun a => (pcs size (cutsOf size 1 hs)).map fun b => ((⟨k, a.1, b.1⟩, a.2 * b.2) : Pn × Int)) fun x _ => by
      rw [List.length_map, pcs_len]
      omega
    rw [pcs_len] at z
    have z2 : (lotsK size hs k).length ≤ 63 * (cutsOf size 0 hs).length := z
    omega
  have z := flat_len (n := 63 * 63) (l := ([0, 1, 2] : List Int)) (f := lotsK size hs) fun x _ => e x
  have e2 : allP size hs = ([0, 1, 2] : List Int).flatMap (lotsK size hs) := rfl
  rw [e2]
  simp only [List.length_cons, List.length_nil] at z
  omega
end TS
set_option Elab.async false
set_option linter.all false
set_option maxRecDepth 100000
set_option maxHeartbeats 1000000
set_option exponentiation.threshold 10000
/-! counts by all people -/
namespace TS
open PySem PySem.Spec PyProof.Rows L2
theorem fm_map {α : Type} {f : D → Option D} {g : α → D} {P : α → Bool} {k : α → D} : ∀ {l : List α}, (∀ p ∈ l, f (g p) = if P p = true then some (k p) else none) → (l.map g).filterMap f = (l.filter P).map k
  | [], _ => rfl
  | p :: l, h => by
    have ih := fm_map (l := l) fun q hq => h q (List.mem_cons_of_mem _ hq)
    have e := h p List.mem_cons_self
    rw [List.map_cons]
    cases q : P p with
    | true =>
      rw [q, if_pos rfl] at e
      rw [List.filterMap_cons_some e, ih, List.filter_cons_of_pos q, List.map_cons]
    | false =>
      rw [q, if_neg (by decide)] at e
      rw [List.filterMap_cons_none e, ih, List.filter_cons_of_neg (by rw [q]; decide)]
theorem fm_all {α : Type} {f : D → Option D} {g : α → D} {k : α → D} {l : List α} (h : ∀ p ∈ l, f (g p) = some (k p)) : (l.map g).filterMap f = l.map k := by
  have z := fm_map (P := fun _ => true) (k := k) (l := l) (f := f) (g := g) fun p hp => by rw [h p hp]; rfl
  rw [z, List.filter_eq_self.mpr fun _ _ => rfl]
theorem sumI_one {α : Type} {P : α → Bool} : ∀ {l : List α}, sumI (fun p => one (P p)) l = ((l.filter P).length : Int)
  | [] => rfl
  | p :: l => by
    rw [sumI_cons, sumI_one]
    cases q : P p with
    | true =>
      rw [List.filter_cons_of_pos q]
      simp [one]
      omega
    | false =>
      rw [List.filter_cons_of_neg (by rw [q]; decide)]
      simp [one]
theorem mem_nums {size x : Int} (hp : 0 ≤ size) : x ∈ nums size ↔ 0 ≤ x ∧ x < size := by
  rw [nums_eq, mem_from]
  omega
theorem mem_persons {size : Int} (hp : 0 ≤ size) {p : Pn} : p ∈ persons size ↔ (0 ≤ p.kind ∧ p.kind ≤ 2) ∧ (0 ≤ p.a ∧ p.a < size) ∧ (0 ≤ p.b ∧ p.b < size) := by
  unfold persons
  constructor
  · intro h
    obtain ⟨k, hk, h⟩ := List.mem_flatMap.mp h
    obtain ⟨a, ha, h⟩ := List.mem_flatMap.mp h
    obtain ⟨b, hb, rfl⟩ := List.mem_map.mp h
    exact ⟨kinds3 hk, (mem_nums hp).mp ha, (mem_nums hp).mp hb⟩
  · rintro ⟨hk, ha, hb⟩
    refine List.mem_flatMap.mpr ⟨p.kind, ?_, List.mem_flatMap.mpr ⟨p.a, (mem_nums hp).mpr ha, List.mem_map.mpr ⟨p.b, (mem_nums hp).mpr hb, rfl⟩⟩⟩
    simp only [List.mem_cons, List.not_mem_nil, or_false]
    omega
theorem person_good {h : Hs} {p : Pn} (g : GoodH h) (hp : p ∈ persons h.size) : GoodP h p := (mem_persons (by have := g.size; omega)).mp hp
theorem nums_len {size : Int} : (nums size).length = size.toNat := by simp [nums]
theorem flat_len_eq {α β : Type} {f : α → List β} {n : Nat} : ∀ {l : List α}, (∀ x ∈ l, (f x).length = n) → (l.flatMap f).length = n * l.length
  | [], _ => by simp
  | x :: l, h => by
    rw [List.flatMap_cons, List.length_append, List.length_cons, Nat.mul_succ, h x List.mem_cons_self, flat_len_eq fun y hy => h y (List.mem_cons_of_mem _ hy)]
    omega
theorem kind_len {size k : Int} : ((nums size).flatMap fun a => (nums size).map fun b => (⟨k, a, b⟩ : Pn)).length = size.toNat * size.toNat := by
  rw [flat_len_eq (n := size.toNat) fun x _ => by rw [List.length_map, nums_len], nums_len]
theorem persons_len {size : Int} : (persons size).length = size.toNat * size.toNat * 3 := by
  unfold persons
  rw [flat_len_eq (n := size.toNat * size.toNat) fun x _ => kind_len]
  rfl
/-- so many people are of a kind -/
theorem kind_count {size k : Int} (hk : 0 ≤ k ∧ k ≤ 2) : ((persons size).filter fun p => p.kind == k).length = size.toNat * size.toNat := by
  have e : ∀ j : Int, ((nums size).flatMap fun a => (nums size).map fun b => (⟨j, a, b⟩ : Pn)).filter (fun p => p.kind == k) = if j = k then (nums size).flatMap (fun a => (nums size).map fun b => (⟨j, a, b⟩ : Pn)) else [] := fun j => by
    by_cases q : j = k
    · rw [if_pos q]
      apply List.filter_eq_self.mpr
      intro p hp
      obtain ⟨a, _, h⟩ := List.mem_flatMap.mp hp
      obtain ⟨b, _, rfl⟩ := List.mem_map.mp h
      simp [q]
    · rw [if_neg q]
      apply List.filter_eq_nil_iff.mpr
      intro p hp
      obtain ⟨a, _, h⟩ := List.mem_flatMap.mp hp
      obtain ⟨b, _, rfl⟩ := List.mem_map.mp h
      simp [q]
  unfold persons
  simp only [List.flatMap_cons, List.flatMap_nil, List.append_nil, List.filter_append, e]
  have h3 : k = 0 ∨ k = 1 ∨ k = 2 := by omega
  rcases h3 with rfl | rfl | rfl
  · rw [if_pos rfl, if_neg (by decide), if_neg (by decide), List.append_nil, List.append_nil]
    exact kind_len
  · rw [if_neg (by decide), if_pos rfl, if_neg (by decide), List.append_nil, List.nil_append]
    exact kind_len
  · rw [if_neg (by decide), if_neg (by decide), if_pos rfl, List.nil_append, List.nil_append]
    exact kind_len
theorem flat_seesAll {h : Hs} {ts : List Tn} (g : GoodH h) (gr : GoodR h ts) (ws : List Int) (kind : Int) : Flat h.size (along h ts) fun p => one (seesAll h ts ws kind p) := fun k a b a' b' k0 k2 ra rb ha hb => by
  have e := flat_history (along_lots g gr) (h := h) (ts := ts) (fun x hx => hx) k a b a' b' k0 k2 ra rb ha hb
  simp only [] at e
  show one (seesAll h ts ws kind ⟨k, a, b⟩) = one (seesAll h ts ws kind ⟨k, a', b'⟩)
  unfold seesAll lastSeen
  rw [e]
theorem seers_sum {h : Hs} {ts : List Tn} (g : GoodH h) (gr : GoodR h ts) (ws : List Int) (kind : Int) : seersN h ts ws kind = (((persons h.size).filter (seesAll h ts ws kind)).length : Int) := by
  rw [← sumI_one]
  exact (people_sum (along_lots g gr) (flat_seesAll g gr ws kind)).symm
theorem size_sq {h : Hs} (g : GoodH h) : 0 < h.size * h.size ∧ h.size * h.size ≤ 1000000000000000000000000000000000000000000000000000000000000 := by
  have z := g.size
  exact ⟨Int.mul_pos (by omega) (by omega), Int.le_trans (Int.mul_le_mul z.2 z.2 (by omega) (by omega)) (by decide)⟩
theorem seers_le {h : Hs} {ts : List Tn} (g : GoodH h) (gr : GoodR h ts) (ws : List Int) (kind : Int) : 0 ≤ seersN h ts ws kind ∧ seersN h ts ws kind ≤ 3 * (h.size * h.size) := by
  rw [seers_sum g gr]
  have h1 := List.length_filter_le (seesAll h ts ws kind) (persons h.size)
  rw [persons_len] at h1
  have z := g.size
  have e : ((h.size.toNat : Nat) : Int) = h.size := by omega
  have e2 : ((h.size.toNat * h.size.toNat : Nat) : Int) = h.size * h.size := by rw [Int.natCast_mul, e]
  omega
theorem big_abs2 {i : Int} (h0 : -(10 ^ 130) ≤ i) (h : i ≤ 10 ^ 130) : i.natAbs < 2 ^ 4000 := by
  have e1 : (10 : Int) ^ 130 = (((10 : Nat) ^ 130 : Nat) : Int) := by rw [Int.natCast_pow]; rfl
  rw [e1] at h0 h
  have h1 : i.natAbs ≤ 10 ^ 130 := by
    generalize (10 : Nat) ^ 130 = n at *
    omega
  exact Nat.lt_of_le_of_lt h1 (by decide +kernel)
theorem sq_sq {x : Int} (h0 : 0 ≤ x) (h : x ≤ 1000000000000000000000000000000000000000000000000000000000000) : x * x ≤ 1000000000000000000000000000000000000000000000000000000000000000000000000000000000000000000000000000000000000000000000000 :=
  Int.le_trans (Int.mul_le_mul h h h0 (by decide)) (by decide)
theorem hist_ne {h : Hs} {ts : List Tn} {p : Pn} : history h p ts ≠ [] := by
  unfold history
  simp
theorem hist_get {h : Hs} {ts : List Tn} {p : Pn} : (history h p ts).getLast? = some (lastSeen h ts p) := by
  unfold lastSeen
  rw [List.getLastD_eq_getLast?]
  cases e : (history h p ts).getLast? with
  | none => exact absurd (List.getLast?_eq_none_iff.mp e) hist_ne
  | some l => rfl
theorem hist_last {h : Hs} {ts : List Tn} {p : Pn} : ((history h p ts).map intsD).getLast? = some (intsD (lastSeen h ts p)) := by
  rw [List.getLast?_map]
  unfold lastSeen
  cases e : (history h p ts).getLast? with
  | none => exact absurd (List.getLast?_eq_none_iff.mp e) hist_ne
  | some l =>
    rw [List.getLastD_eq_getLast?, e]
    rfl
theorem rng_nums {size : Int} : (List.range size.toNat).map (fun (i : Nat) => D.int (i : Int)) = (nums size).map D.int := by
  unfold nums
  rw [List.map_map]
  rfl
theorem persons_lim {size : Int} (h : 0 < size ∧ size ≤ 100) : (persons size).length ≤ 30000 := by
  rw [persons_len]
  have e : size.toNat * size.toNat ≤ 100 * 100 := Nat.mul_le_mul (by omega) (by omega)
  omega
end TS
set_option Elab.async false
set_option linter.all false
set_option maxRecDepth 100000
set_option maxHeartbeats 4000000
set_option exponentiation.threshold 10000
/-! late additions to the layer -/
namespace TS
open PySem PySem.Spec PyProof.Rows L2
section
variable {X : Cx} {Z : Zx} {W : WX}
theorem op_isB : OpR X (compareOp .Is) (fun x y H Q => ∃ a b, x = .bl a ∧ y = .bl b ∧ Q (.bl (a == b)) H) := by
  intro pins s σ H x y v u Q I rx ry h
  obtain ⟨a, b, rfl, rfl, q⟩ := h
  cases (show v = Value.bool a from rx)
  cases (show u = Value.bool b from ry)
  by_cases e : a = b
  · subst e
    exact wpAny_is_self rfl ⟨.bl true, H, I, rfl, by simpa using q⟩
  · have e2 : (a == b) = false := by simpa using e
    rw [e2] at q
    exact wpAny_is_other rfl (fun z => e (Value.bool.inj z)) ⟨.bl false, H, I, rfl, q⟩
theorem op_isNotB : OpR X (compareOp .IsNot) (fun x y H Q => ∃ a b, x = .bl a ∧ y = .bl b ∧ Q (.bl (!(a == b))) H) := by
  intro pins s σ H x y v u Q I rx ry h
  obtain ⟨a, b, rfl, rfl, q⟩ := h
  cases (show v = Value.bool a from rx)
  cases (show u = Value.bool b from ry)
  by_cases e : a = b
  · subst e
    exact wpAny_isNot_self rfl ⟨.bl false, H, I, rfl, by simpa using q⟩
  · have e2 : (a == b) = false := by simpa using e
    rw [e2] at q
    exact wpAny_isNot_other rfl (fun z => e (Value.bool.inj z)) ⟨.bl true, H, I, rfl, q⟩
def oIsB : O2
  | .bl a, .bl b, Q => Q (.bl (a == b))
  | _, _, _ => False
def oNotB : O2
  | .bl a, .bl b, Q => Q (.bl (!(a == b)))
  | _, _, _ => False
theorem ok_isB : OpOk Z (fun x y H Q => ∃ a b, x = .bl a ∧ y = .bl b ∧ Q (.bl (a == b)) H) oIsB := by
  intro σ ρ H G x y v u Qd Q ok rx ry h hq
  cases x with
  | bl a =>
    cases y with
    | bl b =>
      cases rx
      cases ry
      exact ⟨a, b, rfl, rfl, hq (.bl _) _ H (.refl H) rfl h⟩
    | _ => exact h.elim
  | _ => cases y <;> exact h.elim
theorem ok_notB : OpOk Z (fun x y H Q => ∃ a b, x = .bl a ∧ y = .bl b ∧ Q (.bl (!(a == b))) H) oNotB := by
  intro σ ρ H G x y v u Qd Q ok rx ry h hq
  cases x with
  | bl a =>
    cases y with
    | bl b =>
      cases rx
      cases ry
      exact ⟨a, b, rfl, rfl, hq (.bl _) _ H (.refl H) rfl h⟩
    | _ => exact h.elim
  | _ => cases y <;> exact h.elim
end
instance : MO oIsB := ⟨by intro x y Q Q' hq h; cases x <;> cases y <;> first | exact h.elim | exact hq _ h⟩
instance : MO oNotB := ⟨by intro x y Q Q' hq h; cases x <;> cases y <;> first | exact h.elim | exact hq _ h⟩
@[simp] theorem oIsB_s {a b : Bool} {Q : D → Prop} : oIsB (.bl a) (.bl b) Q = Q (.bl (a == b)) := (rfl)
@[simp] theorem oNotB_s {a b : Bool} {Q : D → Prop} : oNotB (.bl a) (.bl b) Q = Q (.bl (!(a == b))) := (rfl)
@[simp] theorem limI3 : ((3 : Int) ≤ ((LIM : Nat) : Int)) = True := eq_true (by show (3 : Int) ≤ ((1000000 : Nat) : Int); omega)
@[simp] theorem limI5 : ((5 : Int) ≤ ((LIM : Nat) : Int)) = True := eq_true (by show (5 : Int) ≤ ((1000000 : Nat) : Int); omega)
@[simp] theorem limI6 : ((6 : Int) ≤ ((LIM : Nat) : Int)) = True := eq_true (by show (6 : Int) ≤ ((1000000 : Nat) : Int); omega)
/-! ### sum of a tuple -/
section
variable {P : Program} {w : World} {A : Around} {E : Value → Shared → Prop} {s : Shared}
theorem call_sumT {l : Addr} {its : List Value} {ks : List Int} {Q : Value → Shared → Prop} (hh : A.handled = none) (ht : s.heap.IsTuple l its.toArray) (hi : IntsAre its ks)
    (fin : ∀ h' tk t', (∀ b o, s.heap.get? b = some o → h'.get? b = some o) → Q (.int ks.sum t') { s with heap := h', toks := tk }) : wpAny (model P w) A (call (.builtin "sum") [.ref l]) Q E s := by
  obtain ⟨xs, e⟩ := hi.allInts.items
  have hn : numsOf (intItems xs).toList = ks := by rw [← e]; exact hi.numsOf
  rw [nums_intItems] at hn
  rw [e] at ht
  have lt0 : l < s.heap.objs.size := by
    obtain ⟨_, z, _⟩ := ht
    exact Heap.lt_size z
  refine call_sum_walkG (wpAny_pyIter_tuple ht ?_)
  refine ⟨_, _, _, _, _, _, numAt xs, rfl, Walks.tuple (A := A.in1) hh _ l (Nat.ne_of_lt lt0) (intItems xs), ⟨⟨_, Heap.get?_push_size _ rfl, rfl, rfl⟩, ht.push _⟩, fun b hb => ?_, (fun _ _ => intItems_at), fun h' tk t' hk => ?_⟩
  · show b < (s.heap.push _).objs.size
    rw [Heap.size_push]
    simp only [List.mem_cons, List.not_mem_nil, or_false] at hb
    rcases hb with rfl | rfl
    · exact Nat.lt_succ_self _
    · exact Nat.lt_succ_of_lt lt0
  · have z := fin h' tk t' fun b o q => hk b o (by
      rw [List.mem_singleton]
      exact Nat.ne_of_lt (Heap.lt_size q)) (Heap.get?_push_of_some _ q)
    have e2 : preSum (numAt xs) (intItems xs).size = ks.sum := by
      have e3 : (intItems xs).size = xs.size := by simp [intItems]
      rw [e3, preSum_eq, List.take_of_length_le (by simp), hn]
    rw [e2]
    exact z
end
section
variable {X : Cx} {Z : Zx}
def rSumT (K : PySem.W.Frag) : List V → Hp → VK → Prop := fun vs H Q => ∃ (a : Addr) (ks : List Int), vs = [V.ref a] ∧ (SqL K H a (ks.map V.int) ∨ SqT K H a (ks.map V.int)) ∧ Q (.int ks.sum) H
theorem cr_sumT (hc : X.calm = true) : CallR X (.builtin "sum") (rSumT X.K) := by
  intro pins s σ H vs us Q I r h
  obtain ⟨a, ks, rfl, hs | hs, q⟩ := h
  · exact cr_sum hc pins s σ H _ us Q I r ⟨a, ks, rfl, hs, q⟩
  · obtain ⟨its, rv, pt, _⟩ := I.tuple hs
    rw [Vals.ref1 r]
    exact call_sumT (I.ok.hd hc) (show s.heap.IsTuple a its.toArray from pt) rv.ints fun h' tk t' hk => ⟨.int _, H, I.kept hk, ⟨_, rfl⟩, q⟩
/-- sum of a list or a tuple of ints -/
def fSumT : OC
  | [d], Q => ∃ ks : List Int, seqD d = some (ks.map D.int) ∧ Q (.int ks.sum)
  | _, _ => False
@[simp] theorem fSumT_l {ds : List D} {Q : D → Prop} : fSumT [.lst ds] Q = ∃ ks : List Int, ds = ks.map D.int ∧ Q (.int ks.sum) := by simp [fSumT]
@[simp] theorem fSumT_t {ds : List D} {Q : D → Prop} : fSumT [.tup ds] Q = ∃ ks : List Int, ds = ks.map D.int ∧ Q (.int ks.sum) := by simp [fSumT]
instance : MC fSumT := ⟨fun xs Q Q' hq h => by
  unfold fSumT at h ⊢
  split at h
  · obtain ⟨ks, e, z⟩ := h
    exact ⟨ks, e, hq _ z⟩
  · exact h.elim⟩
theorem cb_sumT : CallOk Z (rSumT Z.K) fSumT := by
  intro σ ρ H G ds vs Qd Q ok r h hq
  unfold fSumT at h
  split at h
  · obtain ⟨ks, e, h⟩ := h
    obtain ⟨v, rfl, e1⟩ := r.one
    obtain ⟨k, a, ws, rfl, q, r1⟩ := e1.seq e
    have e2 := r1.ints
    subst e2
    have q2 := q.vis
    refine ⟨a, ks, rfl, ?_, hq (.int _) _ H (.refl H) rfl h⟩
    cases k with
    | true => exact .inl q2
    | false => exact .inr q2
  · exact h.elim
end
/-! ### texts: join, split, upper -/
def dJoin (to te : DE) : DE := fun ρ Q E => to ρ (fun x ρ1 => ∃ a : Str, x = .str a ∧ te ρ1 (fun d ρ2 => ∃ ys : List Str, seqD d = some (ys.map D.str) ∧ (ys.map (·.length)).sum + ys.length * a.length ≤ 16777216 ∧ Q (.str (Txt.join a ys)) ρ2) E) E
def nSplit (to te : DE) : DA := fun ρ Q E => to ρ (fun x ρ1 => ∃ a : Str, x = .str a ∧ te ρ1 (fun d ρ2 => ∃ b : Str, d = .str b ∧ ((b.length == 0) = false ∧ a.length ≤ LIM) ∧ Q ((Txt.split a b).map D.str) ρ2) E) E
def dUpper (to : DE) : DE := fun ρ Q E => to ρ (fun x ρ1 => ∃ a : Str, x = .str a ∧ a.length ≤ LIM ∧ Q (.str (Txt.upper a)) ρ1) E
section
variable {X : Cx} {Z : Zx} {W : WX}
theorem RpL.strs {A : Hp} : ∀ {ns : List Str} {vs : List V}, RpL Z A (ns.map D.str) vs → vs = ns.map V.str
  | [], [], _ => rfl
  | n :: ns, v :: vs, r => by
    have e : v = .str n := r.1
    rw [List.map_cons, e, RpL.strs (ns := ns) (vs := vs) r.2]
  | [], _ :: _, r => r.elim
  | _ :: _, [], r => r.elim
theorem LIM2 {n : Nat} (h : n ≤ LIM) : n + 2 ≤ sizeLine := by
  have h1 : n + 2 ≤ 1000002 := by
    have : LIM = 1000000 := rfl
    omega
  exact Nat.le_trans h1 (by rw [sizeLine_eq]; decide)
theorem de_join [Fi : Fit X Z] {o e : Expr} {to te : DE} {apos pos : Pos} (ho : PE X o (upE Z W to)) (he : PE X e (upE Z W te)) (hs : starEach [e] X.env = [(false, eval e X.env)] := by rfl) (hbase : attributeBase o "join" X.env (eval o X.env) = eval o X.env := by rfl) (hline : (apos.endLine == pos.line) = true := by rfl) :
    PE X (.Call (.Attribute o "join" apos) [e] [] pos) (upE Z W (dJoin to te)) := PE.wk (pe_join ho he hs hbase hline) fun σ H Q ⟨ρ, G, Qd, E, ok, h, hq, hx⟩ => by
  refine ⟨ρ, G, _, E, ok, h, fun x v ρ1 H1 ok1 s1 r1 h1 => ?_, hx⟩
  obtain ⟨a, rfl, h1⟩ := h1
  have ev : v = .str a := r1
  subst ev
  refine ⟨⟨a, rfl⟩, ρ1, G, _, E, ok1, h1, fun d u ρ2 H2 ok2 s2 r2 h2 => ?_, hx.step s1⟩
  obtain ⟨ys, e1, e2, h2⟩ := h2
  obtain ⟨k, b, ws, rfl, q, r⟩ := r2.seq e1
  have e3 := r.strs
  subst e3
  have q2 := q.vis
  refine ⟨a, b, ys, rfl, rfl, ?_, e2, hq (.str _) _ ρ2 H2 ok2 (s1.trans s2) rfl h2⟩
  rw [Fi.K]
  cases k with
  | true => exact .inl q2
  | false => exact .inr q2
theorem rp_strs' {A : Hp} : ∀ ns : List Str, RpL Z A (ns.map D.str) (ns.map V.str)
  | [] => trivial
  | n :: ns => ⟨rfl, rp_strs' ns⟩
theorem de_split [GoodJ Z] {o e : Expr} {to te : DE} {apos pos : Pos} (ho : PE X o (upE Z W to)) (he : PE X e (upE Z W te)) (hs : starEach [e] X.env = [(false, eval e X.env)] := by rfl) (hbase : attributeBase o "split" X.env (eval o X.env) = eval o X.env := by rfl) (hline : (apos.endLine == pos.line) = true := by rfl) :
    PE X (.Call (.Attribute o "split" apos) [e] [] pos) (upN Z W (nSplit to te)) := PE.wk (pe_split ho he hs hbase hline) fun σ H Q ⟨ρ, G, Qd, E, ok, h, hq, hx⟩ => by
  refine ⟨ρ, G, _, E, ok, h, fun x v ρ1 H1 ok1 s1 r1 h1 => ?_, hx⟩
  obtain ⟨a, rfl, h1⟩ := h1
  have ev : v = .str a := r1
  subst ev
  refine ⟨⟨a, rfl⟩, ρ1, G, _, E, ok1, h1, fun d u ρ2 H2 ok2 s2 r2 h2 => ?_, hx.step s1⟩
  obtain ⟨b, rfl, ⟨e1, e2⟩, h2⟩ := h2
  have eu : u = .str b := r2
  subst eu
  refine ⟨a, b, rfl, rfl, e1, LIM2 e2, fun p hp => ?_⟩
  obtain ⟨k1, k2, k3⟩ := ok2.laid hp (rp_strs' (Txt.split a b))
  have st := s1.trans s2
  exact hq _ _ p ρ2 _ k1 (st.trans (.ext (same_upd hp))) (st.frs hp) k2 upd_same k3 h2
theorem de_upper {o : Expr} {to : DE} {apos pos : Pos} (ho : PE X o (upE Z W to)) (hbase : attributeBase o "upper" X.env (eval o X.env) = eval o X.env := by rfl) (hline : (apos.endLine == pos.line) = true := by rfl) :
    PE X (.Call (.Attribute o "upper" apos) [] [] pos) (upE Z W (dUpper to)) := PE.wk (pe_upper ho hbase hline) fun σ H Q ⟨ρ, G, Qd, E, ok, h, hq, hx⟩ => by
  refine ⟨ρ, G, _, E, ok, h, fun x v ρ1 H1 ok1 s1 r1 h1 => ?_, hx⟩
  obtain ⟨a, rfl, e1, h1⟩ := h1
  have ev : v = .str a := r1
  subst ev
  refine ⟨⟨a, rfl⟩, a, rfl, rfl, ?_, hq (.str _) _ ρ1 H1 ok1 s1 rfl h1⟩
  have : LIM = 1000000 := rfl
  omega
end
instance {to te : DE} [M : ME to] [N : ME te] : ME (dJoin to te) := ⟨fun ρ Q Q' E E' hq hx h => M.m ρ _ _ _ _ (fun x s ⟨a, e, z⟩ => ⟨a, e, N.m s _ _ _ _ (fun d s ⟨ys, e1, e2, q⟩ => ⟨ys, e1, e2, hq _ s q⟩) hx z⟩) hx h⟩
instance {to te : DE} [M : ME to] [N : ME te] : MA (nSplit to te) := ⟨fun ρ Q Q' E E' hq hx h => M.m ρ _ _ _ _ (fun x s ⟨a, e, z⟩ => ⟨a, e, N.m s _ _ _ _ (fun d s ⟨b, e1, e2, q⟩ => ⟨b, e1, e2, hq _ s q⟩) hx z⟩) hx h⟩
instance {to : DE} [M : ME to] : ME (dUpper to) := ⟨fun ρ Q Q' E E' hq hx h => M.m ρ _ _ _ _ (fun x s ⟨a, e, e1, q⟩ => ⟨a, e, e1, hq _ s q⟩) hx h⟩
@[simp] theorem dJoin_s {to te : DE} {ρ : Rho} {Q : D → Rho → Prop} {E : EQ} : dJoin to te ρ Q E = to ρ (fun x ρ1 => ∃ a : Str, x = .str a ∧ te ρ1 (fun d ρ2 => ∃ ys : List Str, seqD d = some (ys.map D.str) ∧ (ys.map (·.length)).sum + ys.length * a.length ≤ 16777216 ∧ Q (.str (Txt.join a ys)) ρ2) E) E := (rfl)
@[simp] theorem nSplit_s {to te : DE} {ρ : Rho} {Q : List D → Rho → Prop} {E : EQ} : nSplit to te ρ Q E = to ρ (fun x ρ1 => ∃ a : Str, x = .str a ∧ te ρ1 (fun d ρ2 => ∃ b : Str, d = .str b ∧ ((b.length == 0) = false ∧ a.length ≤ LIM) ∧ Q ((Txt.split a b).map D.str) ρ2) E) E := (rfl)
@[simp] theorem dUpper_s {to : DE} {ρ : Rho} {Q : D → Rho → Prop} {E : EQ} : dUpper to ρ Q E = to ρ (fun x ρ1 => ∃ a : Str, x = .str a ∧ a.length ≤ LIM ∧ Q (.str (Txt.upper a)) ρ1) E := (rfl)
end TS
set_option Elab.async false
set_option linter.all false
set_option maxRecDepth 100000
set_option maxHeartbeats 4000000
set_option exponentiation.threshold 10000
/-! texts: int of a text, numbers, lines of a house -/
namespace TS
open PySem PySem.Spec PyProof.Rows L2 SX
section
variable {X : Cx} {Z : Zx}
def rIntT : List V → Hp → VK → Prop := fun xs H Q => ∃ a n, xs = [.str a] ∧ PySem.intText? a = some n ∧ a.length ≤ 640 ∧ Q (.int n) H
def fIntT : OC
  | [.str a], Q => ∃ n, PySem.intText? a = some n ∧ a.length ≤ 640 ∧ Q (.int n)
  | _, _ => False
@[simp] theorem fIntT_s {a : Str} {Q : D → Prop} : fIntT [.str a] Q = ∃ n, PySem.intText? a = some n ∧ a.length ≤ 640 ∧ Q (.int n) := (rfl)
instance : MC fIntT := ⟨fun xs Q Q' hq h => by
  unfold fIntT at h ⊢
  split at h
  · obtain ⟨n, e, e2, z⟩ := h
    exact ⟨n, e, e2, hq _ z⟩
  · exact h.elim⟩
theorem cr_intT : CallR X (.type "int") rIntT := call_int_str
theorem cb_intT : CallOk Z rIntT fIntT := by
  intro σ ρ H G ds vs Qd Q ok r h hq
  unfold fIntT at h
  split at h
  · obtain ⟨n, e, e2, h⟩ := h
    obtain ⟨v, rfl, e1⟩ := r.one
    cases e1
    exact ⟨_, _, rfl, e, e2, hq (.int _) _ H (.refl H) rfl h⟩
  · exact h.elim
end
/-! ### numbers as texts -/
def numI (i : Int) : List Nat := TL.numL i.toNat
theorem num_i {i : Int} (h : 0 ≤ i) : Str.ofString (toString i) = S (numI i) := by
  obtain ⟨n, rfl⟩ := Int.eq_ofNat_of_zero_le h
  exact num_S n
theorem numI_len {i : Int} (h : i ≤ 1000000000000000000000000000000) : (numI i).length ≤ 31 := TL.numL_len (by decide) (by omega)
theorem numI_ne (i : Int) : numI i ≠ [] := TL.numL_ne _
theorem numI_free {i : Int} {s : Nat} (h : s < 48 ∨ 57 < s) : s ∉ numI i := TL.numL_free h
theorem numI_dig {i : Int} : ∀ c ∈ numI i, 48 ≤ c ∧ c ≤ 57 := fun c hc => TL.numL_digits _ c hc
theorem numI_int {i : Int} (h0 : 0 ≤ i) (h : i ≤ 1000000000000000000000000000000) : PySem.intText? (S (numI i)) = some i := by
  obtain ⟨n, rfl⟩ := Int.eq_ofNat_of_zero_le h0
  rw [← num_i h0]
  exact TL.int_num (Nat.le_trans (show (TL.numL n).length ≤ 31 from TL.numL_len (by decide) (by omega)) (by decide))
theorem numI_log {i : Int} (h0 : 0 ≤ i) (h : i ≤ 1000000000000000000000000000000) : i.natAbs.log2 < 1920 := by
  by_cases z : i.natAbs = 0
  · rw [z]; decide
  · exact (Nat.log2_lt z).mpr (Nat.lt_of_le_of_lt (show i.natAbs ≤ 1000000000000000000000000000000 by omega) (by decide))
/-! ### lines -/
def wWay : List Nat := [119, 97, 121]
def wSize : List Nat := [115, 105, 122, 101]
def wKept : List Nat := [107, 101, 112, 116]
def wFree : List Nat := [102, 114, 101, 101]
theorem s_way : Str.ofString "way" = S wWay := by decide
theorem s_size : Str.ofString "size" = S wSize := by decide
theorem s_kept : Str.ofString "kept" = S wKept := by decide
theorem s_free : Str.ofString "free" = S wFree := by decide
theorem s_sp : Str.ofString " " = S [32] := by decide
theorem s_nl : Str.ofString "\n" = S [10] := by decide
theorem s_no : Str.ofString "-" = S [45] := by decide
theorem s_em : Str.ofString "" = S [] := by decide
def fenL : Option Int → List Nat
  | none => [45]
  | some f => numI f
def kindL (ks : List Int) : List Nat := (ks.map numI).flatten
def keepL (b : Bool) : List Nat := if b then wKept else wFree
def wayWs (w : Wy) : List (List Nat) := [wWay, numI w.word, numI w.start, numI w.share, fenL w.fence, kindL w.kinds, keepL w.keeps]
def sizeWs (n : Int) : List (List Nat) := [wSize, numI n]
def wayL (w : Wy) : List Nat := TL.joinL [32] (wayWs w)
def sizeL (n : Int) : List Nat := TL.joinL [32] (sizeWs n)
def linesL (h : Hs) : List (List Nat) := sizeL h.size :: h.ways.map wayL
def houseL (h : Hs) : List Nat := TL.joinL [10] (linesL h)
def WrW (w : Wy) : Prop := GoodW 1000000000000000000000000000000 2 w
theorem GoodH.wr {h : Hs} (g : GoodH h) {w : Wy} (hw : w ∈ h.ways) : WrW w := by
  obtain ⟨i, hi, e⟩ := List.mem_iff_getElem.mp hw
  have z := g.ways i w (by rw [List.getElem?_eq_getElem hi, e])
  have m := g.many
  have s := g.size
  exact ⟨z.word, ⟨z.start.1, by have := z.start.2; omega⟩, ⟨z.share.1, by have := z.share.2; omega⟩, fun f e => ⟨(z.fence f e).1, by have := (z.fence f e).2; omega⟩, z.kinds⟩
theorem kindL_free {ks : List Int} {s : Nat} (h : s < 48 ∨ 57 < s) : s ∉ kindL ks := by
  intro z
  obtain ⟨l, hl, hs⟩ := List.mem_flatten.mp z
  obtain ⟨k, _, rfl⟩ := List.mem_map.mp hl
  exact numI_free h hs
theorem wayWs_free {w : Wy} {s : Nat} (h : s < 45) : ∀ p ∈ wayWs w, s ∉ p := by
  intro p hp
  simp only [wayWs, List.mem_cons, List.not_mem_nil, or_false] at hp
  rcases hp with rfl | rfl | rfl | rfl | rfl | rfl | rfl
  · simp only [wWay, List.mem_cons, List.not_mem_nil, or_false]; omega
  · exact numI_free (.inl (by omega))
  · exact numI_free (.inl (by omega))
  · exact numI_free (.inl (by omega))
  · cases w.fence with
    | none => simp only [fenL, List.mem_cons, List.not_mem_nil, or_false]; omega
    | some f => exact numI_free (.inl (by omega))
  · exact kindL_free (.inl (by omega))
  · cases w.keeps <;> simp [keepL, wKept, wFree] <;> omega
theorem sizeWs_free {n : Int} {s : Nat} (h : s < 45) : ∀ p ∈ sizeWs n, s ∉ p := by
  intro p hp
  simp only [sizeWs, List.mem_cons, List.not_mem_nil, or_false] at hp
  rcases hp with rfl | rfl
  · simp only [wSize, List.mem_cons, List.not_mem_nil, or_false]; omega
  · exact numI_free (.inl (by omega))
theorem joinL_free {s : Nat} {S : List Nat} (hS : s ∉ S) : ∀ {ps : List (List Nat)}, (∀ p ∈ ps, s ∉ p) → s ∉ TL.joinL S ps
  | [], _ => by simp [TL.joinL]
  | [p], h => by simpa [TL.joinL] using h p (by simp)
  | p :: q :: r, h => by
    have := joinL_free hS (ps := q :: r) fun p hp => h p (List.mem_cons_of_mem _ hp)
    have h1 := h p (by simp)
    simp only [TL.joinL, List.mem_append, not_or]
    exact ⟨h1, hS, this⟩
theorem linesL_free {h : Hs} : ∀ p ∈ linesL h, (10 : Nat) ∉ p := by
  intro p hp
  rcases List.mem_cons.mp hp with rfl | hp
  · exact joinL_free (by decide) (sizeWs_free (by decide))
  · obtain ⟨w, _, rfl⟩ := List.mem_map.mp hp
    exact joinL_free (by decide) (wayWs_free (by decide))
theorem split_way (w : Wy) : Txt.split (S (wayL w)) (S [32]) = (wayWs w).map S := by
  rw [split_S (by decide) (by decide)]
  exact congrArg (List.map S) (spl_join (by simp [wayWs]) (wayWs_free (by decide)))
theorem split_size (n : Int) : Txt.split (S (sizeL n)) (S [32]) = (sizeWs n).map S := by
  rw [split_S (by decide) (by decide)]
  exact congrArg (List.map S) (spl_join (by simp [sizeWs]) (sizeWs_free (by decide)))
theorem split_house (h : Hs) : Txt.split (S (houseL h)) (S [10]) = (linesL h).map S := by
  rw [split_S (by decide) (by decide)]
  exact congrArg (List.map S) (spl_join (by simp [linesL]) linesL_free)
theorem join_way (w : Wy) : Txt.join (S [32]) ((wayWs w).map S) = S (wayL w) := join_S _ _
theorem join_house (h : Hs) : Txt.join (S [10]) ((linesL h).map S) = S (houseL h) := join_S _ _
end TS
set_option Elab.async false
set_option linter.all false
set_option maxRecDepth 100000
set_option maxHeartbeats 1000000
set_option exponentiation.threshold 10000
/-! texts: lengths and lines (VB without the specs of the defs) -/
namespace TS
open PySem PySem.Spec PyProof.Rows L2 SX
@[simp] theorem iS_s {t : DE} {ρ : Rho} {Q : List D → Rho → Prop} {E : EQ} : iS t ρ Q E = t ρ (fun d ρ' => ∃ x : Str, d = .str x ∧ Q (x.cps.toList.map fun c => D.str ⟨#[c]⟩) ρ') E := (rfl)
@[simp] theorem oAdd_s {i j : Str} {Qd : D → Prop} : oAdd (.str i) (.str j) Qd = (i.length + j.length ≤ LIM ∧ Qd (.str (i ++ j))) := (rfl)
@[simp] theorem fLen_s {i : Str} {Qd : D → Prop} : fLen [.str i] Qd = (i.length ≤ LIM ∧ Qd (.int i.length)) := (rfl)
@[simp] theorem oIn_cc {x y : Str} {Q : D → Prop} : oIn (.str x) (.str y) Q = Q (.bl (!(Builtin.Str.occurrences y x 0 y.length 1).isEmpty)) := (rfl)
@[simp] theorem oNotIn_cc {x y : Str} {Q : D → Prop} : oNotIn (.str x) (.str y) Q = Q (.bl (!(!(Builtin.Str.occurrences y x 0 y.length 1).isEmpty))) := (rfl)
def S_law_lines : SV
  | [d], Q, _ => ∃ h : Hs, d = h.d ∧ GoodH h ∧ Q (.lst (((linesL h).map S).map D.str))
  | _, _, _ => False
abbrev F_law_lines : FS := FV S_law_lines
instance : MSV S_law_lines := ⟨fun ds Q Q' E E' hq hx => by
  unfold S_law_lines
  split <;> repeat' (first | exact fun h => h | exact fun h => h.elim | exact hq _ | exact hq _ _ | exact hx _ | exact hx _ _ | apply And.imp | apply Or.imp | (apply Exists.imp; intro _) | (apply forall_imp; intro _))⟩
/-! ### lengths -/
theorem fenL_len {w : Wy} (g : WrW w) : (fenL w.fence).length ≤ 31 := by
  cases e : w.fence with
  | none => decide
  | some f => exact numI_len (by have := (g.fence f e).2; omega)
theorem kindL_KS : ∀ ks ∈ KS7, (kindL ks).length ≤ 3 ∧ kindL ks ∈ [[48], [49], [50], [48, 49], [48, 50], [49, 50], [48, 49, 50]] := by decide +kernel
theorem kindL_len {w : Wy} (g : WrW w) : (kindL w.kinds).length ≤ 3 := (kindL_KS _ g.kinds).1
theorem keepL_len (b : Bool) : (keepL b).length = 4 := by cases b <;> rfl
theorem WrW.nums {w : Wy} (g : WrW w) : (0 ≤ w.word ∧ w.word ≤ 1000000000000000000000000000000) ∧ (0 ≤ w.start ∧ w.start ≤ 1000000000000000000000000000000) ∧ (0 ≤ w.share ∧ w.share ≤ 1000000000000000000000000000000) := by
  have := g.word; have := g.start; have := g.share
  omega
theorem strI_n {i : Int} (h : 0 ≤ i ∧ i ≤ 1000000000000000000000000000000) {Q : D → Prop} : fStrI [.int i] Q = Q (.str (S (numI i))) := by
  show (i.natAbs.log2 < 1920 ∧ Q (.str (Str.ofString (toString i)))) = _
  rw [num_i h.1]
  exact propext ⟨fun z => z.2, fun z => ⟨numI_log h.1 h.2, z⟩⟩
theorem sok_S {a : List Nat} (h : ∀ c ∈ a, c < 1114112) : PyData.strOk (S a) = true := by
  unfold PyData.strOk
  rw [← Array.all_toList, List.all_eq_true]
  exact fun c hc => decide_eq_true (h c hc)
@[simp] theorem sok_num {i : Int} : PyData.strOk (S (numI i)) = true := sok_S fun c hc => by have := numI_dig c hc; omega
@[simp] theorem sok_nil : PyData.strOk (S []) = true := sok_S (fun c hc => by cases hc)
theorem s_dig : Str.ofString "0123456789" = S [48, 49, 50, 51, 52, 53, 54, 55, 56, 57] := by decide
def numF : D → Option D
  | .int k => some (D.str (S (numI k)))
  | _ => none
theorem numF_map (ks : List Int) : (ks.map D.int).filterMap numF = (ks.map fun k => S (numI k)).map D.str := by
  induction ks with
  | nil => rfl
  | cons k ks ih => rw [List.map_cons, List.filterMap_cons, ih]; rfl
theorem joinL_nil : ∀ ps : List (List Nat), TL.joinL [] ps = ps.flatten
  | [] => rfl
  | [p] => by simp [TL.joinL]
  | p :: q :: r => by
    have := joinL_nil (q :: r)
    simp only [TL.joinL, this, List.flatten_cons, List.nil_append]
theorem join_kinds (ks : List Int) : Txt.join (S []) (ks.map fun k => S (numI k)) = S (kindL ks) := by
  have e := join_S [] (ks.map numI)
  rw [joinL_nil, List.map_map] at e
  exact e
theorem KS_nums : ∀ ks ∈ KS7, ks.length ≤ 3 ∧ ∀ k ∈ ks, 0 ≤ k ∧ k ≤ 2 := by decide
theorem kinds_sum : ∀ ks : List Int, ((ks.map fun k => S (numI k)).map (fun x => x.length)).sum = (kindL ks).length
  | [] => rfl
  | k :: ks => by
    have := kinds_sum ks
    simp only [List.map_cons, List.sum_cons, this, kindL, List.flatten_cons, List.length_append, S_len]
theorem kinds_lim {w : Wy} (g : WrW w) : ((w.kinds.map fun k => S (numI k)).map (fun x => x.length)).sum + (w.kinds.map fun k => S (numI k)).length * (Str.ofString "").length ≤ 16777216 := by
  rw [kinds_sum, s_em, S_len]
  have := kindL_len g
  simp
  omega
theorem way_lim {w : Wy} (g : WrW w) : (((wayWs w).map S).map (fun x => x.length)).sum + ((wayWs w).map S).length * (Str.ofString " ").length ≤ 16777216 := by
  rw [s_sp, S_len]
  have nn := g.nums
  have n1 := numI_len nn.1.2
  have n2 := numI_len nn.2.1.2
  have n3 := numI_len nn.2.2.2
  have n4 := fenL_len g
  have n5 := kindL_len g
  have n6 := keepL_len w.keeps
  simp only [wayWs, List.map_cons, List.map_nil, List.sum_cons, List.sum_nil, S_len, List.length_cons, List.length_nil, wWay]
  omega
theorem way_ds (w : Wy) : ((wayWs w).map S).map D.str = [.str (Str.ofString "way"), .str (S (numI w.word)), .str (S (numI w.start)), .str (S (numI w.share)), .str (S (fenL w.fence)), .str (S (kindL w.kinds)), .str (S (keepL w.keeps))] := by
  rw [s_way]
  rfl
theorem wayL_len {w : Wy} (g : WrW w) : (wayL w).length ≤ 200 := by
  have nn := g.nums
  have n1 := numI_len nn.1.2
  have n2 := numI_len nn.2.1.2
  have n3 := numI_len nn.2.2.2
  have n4 := fenL_len g
  have n5 := kindL_len g
  have n6 := keepL_len w.keeps
  simp only [wayL, wayWs, TL.joinL, List.length_append, List.length_cons, List.length_nil, wWay]
  omega
theorem sizeL_len {n : Int} (h : n ≤ 1000000000000000000000000000000) : (sizeL n).length ≤ 36 := by
  have n1 := numI_len h
  simp only [sizeL, sizeWs, TL.joinL, List.length_append, List.length_cons, List.length_nil, wSize]
  omega
@[simp] theorem sok_size : PyData.strOk (S wSize) = true := sok_S (by decide)
@[simp] theorem sok_way : PyData.strOk (S wWay) = true := sok_S (by decide)
theorem s_wayb : Str.ofString "way " = S [119, 97, 121, 32] := by decide
theorem s_sizeb : Str.ofString "size " = S [115, 105, 122, 101, 32] := by decide
theorem s_nob : Str.ofString " -" = S [32, 45] := by decide
theorem s_keptb : Str.ofString " kept" = S [32, 107, 101, 112, 116] := by decide
theorem s_freeb : Str.ofString " free" = S [32, 102, 114, 101, 101] := by decide
theorem size_cat (n : Int) : Str.ofString "size " ++ S (numI n) = S (sizeL n) := by
  rw [s_sizeb, S_cat]
  rfl
def lineF : D → Option D
  | .tup [.int a, .int b, .int c, f, .tup ks, .bl k] => some (D.str (S (wayL ⟨a, b, c, (match f with | .int i => some i | _ => none), ks.map intD, k⟩)))
  | _ => none
theorem lineF_d (w : Wy) : lineF w.d = some (D.str (S (wayL w))) := by
  have e : (w.kinds.map D.int).map intD = w.kinds := by
    rw [List.map_map]
    exact (List.map_congr_left fun _ _ => rfl).trans (List.map_id _)
  obtain ⟨a, b, c, f, ks, k⟩ := w
  show some (D.str (S (wayL ⟨a, b, c, _, (ks.map D.int).map intD, k⟩))) = _
  rw [e]
  cases f <;> rfl
theorem lines_lim {h : Hs} (g : GoodH h) : (((linesL h).map S).map (fun x => x.length)).sum + ((linesL h).map S).length * (Str.ofString "\n").length ≤ 16777216 := by
  rw [s_nl, S_len]
  have n1 := sizeL_len g.size.2
  have hm := g.many
  have hk : ∀ ws : List Wy, (∀ w ∈ ws, WrW w) → ((((ws.map wayL).map S).map (fun x => x.length)).sum ≤ 200 * ws.length) := by
    intro ws
    induction ws with
    | nil => intro _; decide
    | cons w ws ih =>
      intro hw
      have a := wayL_len (hw w (by simp))
      have b := ih fun x hx => hw x (by simp [hx])
      simp only [List.map_cons, List.sum_cons, S_len, List.length_cons] at b ⊢
      omega
  have z := hk h.ways fun w hw => g.wr hw
  simp only [linesL, List.map_cons, List.sum_cons, S_len, List.length_cons, List.length_nil, List.length_map] at z ⊢
  omega
theorem houseL_len {h : Hs} (g : GoodH h) : (houseL h).length ≤ 1000 := by
  have n1 := sizeL_len g.size.2
  have hm := g.many
  have wr : ∀ w ∈ h.ways, (wayL w).length ≤ 200 := fun w hw => wayL_len (g.wr hw)
  obtain ⟨size, ws⟩ := h
  simp only at hm wr n1
  match ws, hm, wr with
  | [a], _, wr =>
    have := wr a (by simp)
    simp only [houseL, linesL, List.map_cons, List.map_nil, TL.joinL, List.length_append, List.length_cons, List.length_nil]
    omega
  | [a, b], _, wr =>
    have := wr a (by simp)
    have := wr b (by simp)
    simp only [houseL, linesL, List.map_cons, List.map_nil, TL.joinL, List.length_append, List.length_cons, List.length_nil]
    omega
  | [a, b, c], _, wr =>
    have := wr a (by simp)
    have := wr b (by simp)
    have := wr c (by simp)
    simp only [houseL, linesL, List.map_cons, List.map_nil, TL.joinL, List.length_append, List.length_cons, List.length_nil]
    omega
  | _ :: _ :: _ :: _ :: _, h, _ => simp at h
theorem oAdd_S {a b : List Nat} {Q : D → Prop} : oAdd (.str (S a)) (.str (S b)) Q = (a.length + b.length ≤ LIM ∧ Q (.str (S (a ++ b)))) := by
  rw [oAdd_s, S_len, S_len, S_cat]
theorem kindL_snoc {ks : List Int} {j : Nat} {k : Int} (h : ks[j]? = some k) : kindL (ks.take (j + 1)) = kindL (ks.take j) ++ numI k := by
  rw [List.take_add_one, h]
  simp [kindL]
theorem kindL_take {ks : List Int} {j : Nat} : (kindL (ks.take j)).length ≤ (kindL ks).length := by
  have e : kindL ks = kindL (ks.take j) ++ kindL (ks.drop j) := by
    unfold kindL
    rw [← List.flatten_append, ← List.map_append, List.take_append_drop]
  rw [e, List.length_append]
  omega
theorem s_kinds : [Str.ofString "0", Str.ofString "1", Str.ofString "2", Str.ofString "01", Str.ofString "02", Str.ofString "12", Str.ofString "012"] = ([[48], [49], [50], [48, 49], [48, 50], [49, 50], [48, 49, 50]] : List (List Nat)).map S := by decide
/-- what a kinds' word reads -/
def digF : D → Option D
  | .str x => some (.int ((x.cps.getD 0 0 : Nat) - 48 : Int))
  | _ => none
theorem kinds_read : ∀ ks ∈ KS7, (((kindL ks).map fun c => D.str ⟨#[c]⟩).filterMap digF = ks.map D.int) ∧ ∀ c ∈ kindL ks, c = 48 ∨ c = 49 ∨ c = 50 := by
  intro ks h
  simp only [KS7, List.mem_cons, List.not_mem_nil, or_false] at h
  have e0 : numI 0 = [48] := TL.numL_lt (by decide)
  have e1 : numI 1 = [49] := TL.numL_lt (by decide)
  have e2 : numI 2 = [50] := TL.numL_lt (by decide)
  rcases h with rfl | rfl | rfl | rfl | rfl | rfl | rfl <;> simp [kindL, e0, e1, e2, digF]
theorem int_dig : ∀ c : Nat, c = 48 ∨ c = 49 ∨ c = 50 → PySem.intText? ⟨#[c]⟩ = some ((c : Int) - 48) := by
  rintro c (rfl | rfl | rfl) <;> decide +kernel
def valF : D → Option D
  | .str x => (PySem.intText? x).map D.int
  | _ => none
theorem valF_num {i : Int} (h0 : 0 ≤ i) (h : i ≤ 1000000000000000000000000000000) : valF (.str (S (numI i))) = some (.int i) := by
  show (PySem.intText? (S (numI i))).map D.int = _
  rw [numI_int h0 h]
  rfl
theorem valF_dig {c : Nat} (h : c = 48 ∨ c = 49 ∨ c = 50) : valF (.str ⟨#[c]⟩) = some (.int ((c : Int) - 48)) := by
  show (PySem.intText? ⟨#[c]⟩).map D.int = _
  rw [int_dig c h]
  rfl
theorem kinds_val {ks : List Int} (h : ks ∈ KS7) : ((kindL ks).map fun c => D.str ⟨#[c]⟩).filterMap valF = ks.map D.int := by
  have z := kinds_read ks h
  rw [← z.1]
  have m : ∀ l : List Nat, (∀ c ∈ l, c = 48 ∨ c = 49 ∨ c = 50) → (l.map fun c => D.str ⟨#[c]⟩).filterMap valF = (l.map fun c => D.str ⟨#[c]⟩).filterMap digF := by
    intro l
    induction l with
    | nil => intro _; rfl
    | cons c l ih =>
      intro hl
      rw [List.map_cons, List.filterMap_cons, List.filterMap_cons, ih fun x hx => hl x (by simp [hx]), valF_dig (hl c (by simp))]
      rfl
  exact m _ z.2
theorem s_d0 : Str.ofString "0" = S [48] := by decide
theorem s_d1 : Str.ofString "1" = S [49] := by decide
theorem s_d2 : Str.ofString "2" = S [50] := by decide
theorem s_d01 : Str.ofString "01" = S [48, 49] := by decide
theorem s_d02 : Str.ofString "02" = S [48, 50] := by decide
theorem s_d12 : Str.ofString "12" = S [49, 50] := by decide
theorem s_d012 : Str.ofString "012" = S [48, 49, 50] := by decide
theorem S_iff {a b : List Nat} : S a = S b ↔ a = b := ⟨S_inj, fun e => by rw [e]⟩
theorem fen_cases {w : Wy} (g : WrW w) : (w.fence = none ∧ fenL w.fence = [45]) ∨ (w.fence = some 0 ∧ fenL w.fence = [48]) ∨ (w.fence = some 1 ∧ fenL w.fence = [49]) := by
  cases hf : w.fence with
  | none => exact .inl ⟨rfl, rfl⟩
  | some f =>
    have := g.fence f hf
    rcases (by omega : f = 0 ∨ f = 1) with rfl | rfl
    · exact .inr (.inl ⟨rfl, TL.numL_lt (by decide)⟩)
    · exact .inr (.inr ⟨rfl, TL.numL_lt (by decide)⟩)
theorem pd_wayT {w : Wy} (h : w.kinds.length ≤ 1000) : pd w.d := by
  have e : pdB 39 (.tup (w.kinds.map .int)) = true := by
    simp only [pdB, List.length_map, Bool.and_eq_true, decide_eq_true_eq, List.all_eq_true]
    refine ⟨h, fun d hd => ?_⟩
    obtain ⟨i, _, rfl⟩ := List.mem_map.mp hd
    rfl
  show (decide _ && _) = true
  simp only [List.length_cons, List.length_nil, List.all_cons, List.all_nil, e, pdB_opt, Bool.and_true]
  rfl
end TS
set_option Elab.async false
set_option linter.all false
set_option maxRecDepth 100000
set_option maxHeartbeats 4000000
set_option exponentiation.threshold 10000
/-! tuple times int; the least of a list that a slot holds -/
namespace TS
open PySem PySem.Spec PyProof.Rows L2
def oRepT : O2
  | .tup ds, .int k, Q => (2 ≤ k ∧ k ≤ 1000 ∧ ds ≠ [] ∧ ds.length ≤ 1000) ∧ Q (.tup (List.replicate k.toNat ds).flatten)
  | _, _, _ => False
section
variable {X : Cx} {Z : Zx} {W : WX}
theorem ok_repT [GoodJ Z] : OpOk Z (rRepT Z.K) oRepT := by
  intro σ ρ H G x y v u Qd Q ok rx ry h hq
  cases x with
  | tup ds =>
    cases y with
    | int k =>
      obtain ⟨a, vs, rfl, q, r⟩ := rx
      cases ry
      obtain ⟨⟨h1, h2, h3, h5⟩, h4⟩ := h
      refine ⟨a, k, vs, rfl, rfl, vis_sqT q, fun z => h3 ?_, h1, h2, by rw [← r.len]; exact h5, fun p hp => ?_⟩
      · have := r.len
        rw [z] at this
        exact List.eq_nil_of_length_eq_zero this
      · exact hq (.tup _) _ _ (same_upd hp) ⟨p, _, rfl, .of (ok.freshV hp), (r.rep _).sub (vis_ext (same_upd hp))⟩ h4
    | _ => exact h.elim
  | _ => cases y <;> exact h.elim
/-- a slot is read; a list of one's own is never changed again -/
def dVarF (i : Nat) : DE := fun ρ Q _ => match slAt ρ i with
  | .val d => Q d ρ
  | .own ds => Q (.lst ds) (ρ.set i (.val (.lst ds)))
  | _ => False
theorem Ok.freeze {σ : L2.St} {ρ : Rho} {H : Hp} {G : Addr → Prop} {i : Nat} {ds : List D} (k : Ok Z σ ρ H G) (e : slAt ρ i = .own ds) :
    Ok Z σ (ρ.set i (.val (.lst ds))) H G ∧ Stp Z σ ρ H σ (ρ.set i (.val (.lst ds))) H ∧ ∃ v, σ[i]? = some (some v) ∧ Rp Z (vis H (Hid (ρ.set i (.val (.lst ds))) σ G)) (.lst ds) v := by
  obtain ⟨m1, m2, v, m3, m4⟩ := k.move e
  have hh : ∀ j, heldAt (ρ.set i (.val (.lst ds))) j = heldAt (ρ.set i .no) j := fun j => by
    unfold heldAt
    rw [slAt_set, slAt_set]
    by_cases q : i = j ∧ j < ρ.length
    · rw [if_pos q, if_pos q]
      rfl
    · rw [if_neg q, if_neg q]
  have ow : Ow (ρ.set i (.val (.lst ds))) σ = Ow (ρ.set i .no) σ := by
    funext a
    unfold Ow
    simp only [hh]
  have hd : Hid (ρ.set i (.val (.lst ds))) σ G = Hid (ρ.set i .no) σ G := by
    funext a
    unfold Hid
    rw [ow]
  refine ⟨⟨by rw [List.length_set]; exact k.len, fun j d z => ?_, fun j xs z => ?_, fun j l xs ys b z1 z2 => m1.inj j l xs ys b (by rw [← hh]; exact z1) (by rw [← hh]; exact z2), m1.j, m1.gt⟩, ⟨m2.keep, fun a o h n m => by rw [ow]; exact m2.out a o h n m, fun j xs z => ⟨rfl, xs, ?_⟩⟩, v, m3, by rw [hd]; exact m4⟩
  · rw [hd]
    rw [slAt_set] at z
    by_cases q : i = j ∧ j < ρ.length
    · rw [if_pos q] at z
      cases z
      rw [← q.1]
      exact ⟨v, m3, m4⟩
    · rw [if_neg q] at z
      exact m1.val j d (by rw [slAt_set, if_neg q]; exact z)
  · rw [hd]
    rw [hh] at z
    exact m1.own j xs z
  · rw [slAt_set, if_neg]
    · exact z
    · intro q
      rw [← q.1, e] at z
      cases z
theorem de_varF {i : Nat} {x : Str} {pos : Pos} (hN : X.N[i]? = some x := by rfl) (hv : Vis X.env.scope x := by first | exact Or.inl rfl | exact Or.inr (Or.inl rfl) | exact Or.inr (Or.inr rfl))
    (hd : (x == ("__debug__" : Str)) = false := by decide) (hcd : (x == ("__classdict__" : Str)) = false := by decide) : PE X (.Name x pos) (upE Z W (dVarF i)) :=
  PE.wk (pe_var hN hv hd hcd) fun σ H Q ⟨ρ, G, Qd, E, ok, h, hq, _⟩ => by
    unfold dVarF at h
    cases e : slAt ρ i with
    | val d =>
      rw [e] at h
      obtain ⟨v, h1, h2⟩ := ok.val i d e
      exact ⟨v, h1, hq d v ρ H ok .refl h2 h⟩
    | own ds =>
      rw [e] at h
      obtain ⟨k1, k2, v, k3, k4⟩ := ok.freeze e
      exact ⟨v, k3, hq _ v _ H k1 k2 k4 h⟩
    | no => rw [e] at h; exact h.elim
    | brw ds => rw [e] at h; exact h.elim
def dMinH (i : Nat) : DE := fun ρ Q _ => ∃ ns : List Int, heldAt ρ i = some (ns.map D.int) ∧ ns ≠ [] ∧ ∀ m, m ∈ ns → (∀ y ∈ ns, m ≤ y) → Q (.int m) ρ
theorem de_minH [F : Fit X Z] {i : Nat} {x : Str} {p px pos : Pos} (hc : X.calm = true) (hm : Z.mg "min" = none) (hN : X.N[i]? = some x := by rfl) (hv : Vis X.env.scope x := by first | exact Or.inl rfl | exact Or.inr (Or.inl rfl) | exact Or.inr (Or.inr rfl))
    (hd : (x == ("__debug__" : Str)) = false := by decide) (hcd : (x == ("__classdict__" : Str)) = false := by decide) (hg : Gl X "min" := by rfl)
    (he : starEach [.Name x px] X.env = (false, eval (.Name x px) X.env) :: starEach [] X.env := by rfl) (hpl : (backTo pos (starEach [] X.env)).any (·.1) = false := by rfl) :
    PE X (.Call (.Name "min" p) [.Name x px] [] pos) (upE Z W (dMinH i)) := PE.wk (pe_callB (cr_min hc) hg (by rw [F.mg]; exact hm) boot_min (pa_cons (pe_var hN hv hd hcd) pa_nil he) (by decide) (by decide) he hpl) fun σ H Q ⟨ρ, G, Qd, E, ok, ⟨ns, h, hne, h1⟩, hq, hx⟩ => by
  obtain ⟨a, vs, ha, hv, r, _⟩ := ok.own i _ h
  have e := r.ints
  subst e
  refine ⟨.ref a, ha, a, ns, rfl, .of hv, List.length_pos_iff.mpr hne, fun m hm hl => ?_⟩
  exact hq (.int _) _ ρ H ok .refl rfl (h1 m hm hl)
end
theorem dVarF_s {i : Nat} {ρ : Rho} {Q : D → Rho → Prop} {E : EQ} : dVarF i ρ Q E = (match slAt ρ i with | .val d => Q d ρ | .own ds => Q (.lst ds) (ρ.set i (.val (.lst ds))) | _ => False) := rfl
@[simp] theorem dVarF_v {d : D} {ρ : Rho} {Q : D → Rho → Prop} {E : EQ} : dVarF 0 (.val d :: ρ) Q E = Q d (.val d :: ρ) := (rfl)
@[simp] theorem dVarF_o {ds : List D} {ρ : Rho} {Q : D → Rho → Prop} {E : EQ} : dVarF 0 (.own ds :: ρ) Q E = Q (.lst ds) (.val (.lst ds) :: ρ) := (rfl)
@[simp] theorem dVarF_n {i : Nat} {x : Sl} {ρ : Rho} {Q : D → Rho → Prop} {E : EQ} : dVarF (i + 1) (x :: ρ) Q E = dVarF i ρ (fun d ρ' => Q d (x :: ρ')) E := by
  unfold dVarF
  rw [slAt_s]
  cases slAt ρ i <;> rfl
instance {i : Nat} : ME (dVarF i) := ⟨fun ρ Q Q' E E' hq hx h => by
  rw [dVarF_s] at h ⊢
  cases e : slAt ρ i <;> rw [e] at h <;> first | exact h.elim | exact hq _ _ h⟩
instance : MO oRepT := ⟨fun x y Q Q' hq h => by
  cases x <;> cases y <;> first | exact h.elim | exact ⟨h.1, hq _ h.2⟩⟩
@[simp] theorem oRepT_s {ds : List D} {k : Int} {Q : D → Prop} : oRepT (.tup ds) (.int k) Q = ((2 ≤ k ∧ k ≤ 1000 ∧ ds ≠ [] ∧ ds.length ≤ 1000) ∧ Q (.tup (List.replicate k.toNat ds).flatten)) := (rfl)
instance {i : Nat} : ME (dMinH i) := ⟨fun ρ Q Q' E E' hq hx ⟨ns, e, e2, q⟩ => ⟨ns, e, e2, fun m h1 h2 => hq _ _ (q m h1 h2)⟩⟩
@[simp] theorem dMinH_s {i : Nat} {ρ : Rho} {Q : D → Rho → Prop} {E : EQ} : dMinH i ρ Q E = ∃ ns : List Int, heldAt ρ i = some (ns.map D.int) ∧ ns ≠ [] ∧ ∀ m, m ∈ ns → (∀ y ∈ ns, m ≤ y) → Q (.int m) ρ := (rfl)
@[simp] theorem FB_3 {S : SB} {m : List D} {d1 d2 d3 : D} {Q : D → List Sl → Prop} {E : EQ} : FB S [.brw m, .val d1, .val d2, .val d3] Q E = S m [d1, d2, d3] (fun d s => Q d [s, .val d1, .val d2, .val d3]) (fun x s => E x [s, .val d1, .val d2, .val d3]) := FB_s (ds := [d1, d2, d3])
@[simp] theorem FB_4 {S : SB} {m : List D} {d1 d2 d3 d4 : D} {Q : D → List Sl → Prop} {E : EQ} : FB S [.brw m, .val d1, .val d2, .val d3, .val d4] Q E = S m [d1, d2, d3, d4] (fun d s => Q d [s, .val d1, .val d2, .val d3, .val d4]) (fun x s => E x [s, .val d1, .val d2, .val d3, .val d4]) := FB_s (ds := [d1, d2, d3, d4])
@[simp] theorem rep11 {x : Sl} : List.replicate 11 x = [x, x, x, x, x, x, x, x, x, x, x] := (rfl)
@[simp] theorem rep12 {x : Sl} : List.replicate 12 x = [x, x, x, x, x, x, x, x, x, x, x, x] := (rfl)
@[simp] theorem rep13 {x : Sl} : List.replicate 13 x = [x, x, x, x, x, x, x, x, x, x, x, x, x] := (rfl)
@[simp] theorem rep14 {x : Sl} : List.replicate 14 x = [x, x, x, x, x, x, x, x, x, x, x, x, x, x] := (rfl)
@[simp] theorem rep15 {x : Sl} : List.replicate 15 x = [x, x, x, x, x, x, x, x, x, x, x, x, x, x, x] := (rfl)
@[simp] theorem rep16 {x : Sl} : List.replicate 16 x = [x, x, x, x, x, x, x, x, x, x, x, x, x, x, x, x] := (rfl)
@[simp] theorem rep17 {x : Sl} : List.replicate 17 x = [x, x, x, x, x, x, x, x, x, x, x, x, x, x, x, x, x] := (rfl)
@[simp] theorem rep18 {x : Sl} : List.replicate 18 x = [x, x, x, x, x, x, x, x, x, x, x, x, x, x, x, x, x, x] := (rfl)
@[simp] theorem rep19 {x : Sl} : List.replicate 19 x = [x, x, x, x, x, x, x, x, x, x, x, x, x, x, x, x, x, x, x] := (rfl)
@[simp] theorem rep20 {x : Sl} : List.replicate 20 x = [x, x, x, x, x, x, x, x, x, x, x, x, x, x, x, x, x, x, x, x] := (rfl)
@[simp] theorem rep21 {x : Sl} : List.replicate 21 x = [x, x, x, x, x, x, x, x, x, x, x, x, x, x, x, x, x, x, x, x, x] := (rfl)
@[simp] theorem rep22 {x : Sl} : List.replicate 22 x = [x, x, x, x, x, x, x, x, x, x, x, x, x, x, x, x, x, x, x, x, x, x] := (rfl)
@[simp] theorem rep23 {x : Sl} : List.replicate 23 x = [x, x, x, x, x, x, x, x, x, x, x, x, x, x, x, x, x, x, x, x, x, x, x] := (rfl)
@[simp] theorem rep24 {x : Sl} : List.replicate 24 x = [x, x, x, x, x, x, x, x, x, x, x, x, x, x, x, x, x, x, x, x, x, x, x, x] := (rfl)
@[simp] theorem rep25 {x : Sl} : List.replicate 25 x = [x, x, x, x, x, x, x, x, x, x, x, x, x, x, x, x, x, x, x, x, x, x, x, x, x] := (rfl)
@[simp] theorem rep26 {x : Sl} : List.replicate 26 x = [x, x, x, x, x, x, x, x, x, x, x, x, x, x, x, x, x, x, x, x, x, x, x, x, x, x] := (rfl)
@[simp] theorem rep27 {x : Sl} : List.replicate 27 x = [x, x, x, x, x, x, x, x, x, x, x, x, x, x, x, x, x, x, x, x, x, x, x, x, x, x, x] := (rfl)
@[simp] theorem rep28 {x : Sl} : List.replicate 28 x = [x, x, x, x, x, x, x, x, x, x, x, x, x, x, x, x, x, x, x, x, x, x, x, x, x, x, x, x] := (rfl)
@[simp] theorem rep29 {x : Sl} : List.replicate 29 x = [x, x, x, x, x, x, x, x, x, x, x, x, x, x, x, x, x, x, x, x, x, x, x, x, x, x, x, x, x] := (rfl)
end TS
set_option Elab.async false
set_option linter.all false
set_option maxRecDepth 100000
set_option maxHeartbeats 4000000
set_option exponentiation.threshold 10000
/-! exceptions of an own class with a field: C(e) raised, caught, its field read -/
namespace TS
open PySem PySem.Spec PyProof.Rows L2 ClX
/-! ### C(e) where nothing is handled -/
section
variable {X : Cx} {e : Expr} {es : List Expr} {ta : TA} {p p1 p2 pos : Pos}
theorem pmkF {x : Str} {C fI : Addr} {k : Nat} {fd : FuncData} {ps : List Str} {sp : Sp} (T : OexC X.K C) (iC : PySem.W.findIn X.K (.ref C) "__init__" = some (some (.ref fI))) (tI : PySem.W.typeIn X.K (.ref fI) = some (.type "function"))
    (F1 : FnOk X.prog X.w X.K X.mg X.base (L2N.CX X.prog X.w) k fI fd ps sp) (hr : Room (k + 1) X.A) (hb : Binds X.K fd ps []) (hx : Passes (L2N.CX X.prog X.w) X (fun _ _ _ => False)) (hg : Gl X x) (hm : X.mg x = some (.ref C)) (ha : PA X (e :: es) ta)
    (hdb : (x == ("__debug__" : Str)) = false) (he : starEach (e :: es) X.env = (false, eval e X.env) :: starEach es X.env) (hpl : (backTo pos (starEach es X.env)).any (·.1) = false) :
    L2N.PMk X (.Call (.Name x p) (e :: es) [] pos) (tMkO C sp [] ta) := by
  intro pins s σ H Q I h
  obtain ⟨nm, q, N, bs, bm, sn, sub, ab, col, dd, k0, k1, k2, k3, k5, hC, hbm⟩ := T.cls
  refine wpAny_Call_Name_kw (ld_glob I hg hm (PySem.W.callWith_K (h₀ := X.base) I.ok.mod.kin T.kC (thn (ha.run pos pins s σ H _ I h) fun us s1 ⟨vs, H1, I1, r1, hz, q1⟩ => ⟨I1.kIn, ?_⟩) he hpl) hdb)
  show wpAny _ _ (call (.ref C) us) _ _ _
  obtain ⟨hp, g, dr, tk, os⟩ := s1
  have le1 : hp.objs.size ≤ hp.objs.size + 1 := Nat.le_succ _
  have hq := q1 _ (I1.hok.fresh le1)
  have kk : ∀ b o, hp.get? b = some o → ((hp.push (PySem.W.kdv_tup us)).push (PySem.HandSPX.excO C hp.objs.size)).get? b = some o := fun b o z => Heap.get?_push_of_some _ (Heap.get?_push_of_some _ z)
  have at1 : ((hp.push (PySem.W.kdv_tup us)).push (PySem.HandSPX.excO C hp.objs.size)).get? (hp.objs.size + 1) = some (PySem.HandSPX.excO C hp.objs.size) := by heap_get
  have I2 : Inv X pins σ (upd H1 (hp.objs.size + 1) (exo (hp.objs.size + 1) C none)) ⟨(hp.push (PySem.W.kdv_tup us)).push (PySem.HandSPX.excO C hp.objs.size), g, dr, tk, os⟩ := I1.laid (t' := tk) (a := hp.objs.size + 1) (o := exo (hp.objs.size + 1) C none) kk le1 (exo_ok at1)
  have r2 : Vals (V.ref (hp.objs.size + 1) :: (vs ++ [])) (Value.ref (hp.objs.size + 1) :: us ++ []) := .cons rfl (r1.append .nil)
  have hl : (Value.ref (hp.objs.size + 1) :: us ++ []).length = ps.length := (r2.length.symm.trans (F1.len _ _ _ _ hq))
  have hus : us.length ≤ sizeLine := by
    rw [← Paired.length r1, sizeLine_eq]
    omega
  refine wpAny_call (PySem.HandSPX.call_own F.excBase_ValueError (fun Y => PySem.HandSPX.refsVE_contains Y bm hbm) (I1.kIn _ _ hC) (PySem.W.looks_findIn I1.kIn iC) (fun self => PySem.W.bind_fn I1.kIn self tI) hus
    (codeAny_mono (F1.run _ X.stack _ _ ⟨Value.ref (hp.objs.size + 1) :: us, []⟩ (Value.ref (hp.objs.size + 1) :: us ++ []) _ _ (fun _ _ _ => False) (hr.make C us []) (I2.env0.make C us []) (hb _ (Value.ref (hp.objs.size + 1) :: us) I2.kIn hl) r2 hq) fun r s' z => ?_))
  match r, z with
  | .error er, z => exact hx pins σ _ _ er s' I2 z
  | .ok (.ret u), z =>
    obtain ⟨v, H2, os2, bare2, un2, hok2, rv, ev, d, fs, ea, ed, hd1, q2⟩ := z
    subst ev
    obtain ⟨h2, g2, d2, t2, os'⟩ := s'
    obtain ⟨t0, G, J, kG, ge, hoe, na⟩ := mk_end0 (d2 := d2) (t2 := t2) I1 le1 kk un2 hok2 os2 bare2 ea ed hd1
    refine ⟨rv, hp.objs.size + 1, _, _, ⟨G, g2, d2, t2, os'⟩, _, .ref C, some d, rfl, J, kG, ge, hoe, ⟨rfl, rfl, fun vs hv => ?_⟩, rfl, rfl, na, rfl, bare2, raises_own T.exC T.tyC, q2⟩
    cases hv
    rfl
  | .ok .next, z => exact z.elim
  | .ok .brk, z => exact z.elim
  | .ok .cont, z => exact z.elim
/-! ### its __init__ -/
/-- B.__init__(self, ..), B a class of the text over ValueError -/
theorem pe_binit {B : Addr} {x : Str} {mc : Value} {pl : Sem Bool} (hg : Gl X x) (hm : X.mg x = some (.ref B)) (rd : CRead X.K B mc) (vV : PySem.W.findCls X.K (.ref B) mc "__init__" = some (.val (.builtin "ValueError.__init__"))) (ha : PA X (e :: es) ta)
    (hdb : (x == ("__debug__" : Str)) = false)
    (hc : eval (.Call (.Attribute (.Name x p1) "__init__" p2) (e :: es) [] pos) X.env = (do
      let ov ← eval (.Name x p1) X.env
      standAt p2.atName
      let (f, first) ← holding [ov] (getMethod ov "__init__" pl)
      callWith pos f first (backTo pos (starEach (e :: es) X.env)) (backToKw pos (keywordEach [] X.env))))
    (he : starEach (e :: es) X.env = (false, eval e X.env) :: starEach es X.env) (hpl : (backTo pos (starEach es X.env)).any (·.1) = false) :
    PE X (.Call (.Attribute (.Name x p1) "__init__" p2) (e :: es) [] pos) (tVeI X.K ta) := by
  refine ⟨fun pins s σ H Q I h => PySem.W.methodCall_KW (ld_glob I hg hm (PySem.W.method_cls I.kIn rd.ga (PySem.W.cls_value I.kIn rd.rd vV (by decide +kernel) ?_)) hdb) hc⟩
  show wpAny _ _ (callWith pos (Value.builtin "ValueError.__init__") [] (backTo pos (starEach (e :: es) X.env)) []) _ _ _
  refine PyProof.Rows.callWith_method1 (thn (ha.run pos pins _ σ H _ (I.tok _) h) fun us s1 ⟨vs, H1, I1, r1, a, C, ws, ev, hl, T, ea, q⟩ => ?_) he hpl
  subst ev
  cases r1 with
  | @cons _ u0 _ ur ra rw' =>
    obtain rfl : u0 = Value.ref a := ra
    exact oinit_ok T I1 ea (by rw [← Paired.length rw', sizeLine_eq]; omega) fun s' J => ⟨.non, H1, J, rfl, q⟩
end
/-- what __init__(self, y) does: self.f = y behind B.__init__ -/
def spF (K : PySem.W.Frag) (f : Str) : Sp := fun us H Q _ => ∃ (a C : Addr) (y : V), us = [.ref a, y] ∧ OexC K C ∧ PySem.W.findIn K (.ref C) f = some none ∧ H a = some (exo a C none) ∧
  ∀ dx, H dx = none → dx ≠ a → Q .non (upd (upd H dx (exd dx [(f, y)])) a (exo a C (some dx)))
/-- a class of the text over ValueError, its __init__ keeping one field -/
structure ExcP (P : Program) (w : World) (base : Heap) (Z : Zx) (k : Nat) (n f : Str) : Prop where
  ex : ∃ (C fI : Addr) (fd : FuncData) (ps : List Str), Z.mg n = some (.ref C) ∧ OexC Z.K C ∧ PySem.W.findIn Z.K (.ref C) f = some none ∧ PySem.W.findIn Z.K (.ref C) "__init__" = some (some (.ref fI)) ∧ PySem.W.typeIn Z.K (.ref fI) = some (.type "function") ∧
    FnOk P w Z.K Z.mg base (L2N.CX P w) k fI fd ps (spF Z.K f) ∧ Binds Z.K fd ps []
/-- raise n(e), e kept under f -/
def sRaiseP (n f : Str) (t : DE) : DS := fun B E ρ => t ρ (fun d ρ' => E ⟨n, some (f, d)⟩ ρ') E
section
variable {X : Cx} {Z : Zx} {W : WX}
theorem ds_raiseP [GoodJ Z] [F : Fit X Z] {n f : Str} {k : Nat} {e : Expr} {te : DE} {p p3 pos : Pos} (x : ExcP X.prog X.w X.base Z k n f) (he : PE X e (upE Z W te)) (hr : Room (k + 1) X.A) (hc : X.calm = true) (tk : L2N.Takes X W)
    (hg : Gl X n := by rfl) (hdb : (n == ("__debug__" : Str)) = false := by decide) (hs : starEach [e] X.env = (false, eval e X.env) :: starEach [] X.env := by rfl) (hpl : (backTo p3 (starEach [] X.env)).any (·.1) = false := by rfl) :
    PS X (.Raise (some (.Call (.Name n p) [e] [] p3)) none pos) (upS Z W (sRaiseP n f te)) := by
  obtain ⟨C, fI, fd, ps, hC, h2, h3, h4, h5, h6, h7⟩ := x.ex
  have hK := F.K
  have hM := F.mg
  refine PS.wk (L2N.ps_raise hc tk (pmkF (ta := upA Z W (aCons te aNil)) (sp := spF Z.K f) (by rw [hK]; exact h2) (by rw [hK]; exact h4) (by rw [hK]; exact h5) (by rw [hK, hM]; exact h6) hr (by rw [hK]; exact h7)
    (L2N.passes_call (E := fun _ _ _ => False) tk fun _ _ _ _ z => z.elim) hg (by rw [hM]; exact hC) (da_cons he da_nil hs) hdb hs hpl)) ?_
  rintro B σ H ⟨ρ, G, DD, E, ok, h, hq, hx⟩
  refine ⟨ρ, G, fun ds ρ1 => match ds with
    | [d] => E ⟨n, some (f, d)⟩ ρ1
    | _ => False, E, ok, h, fun ds vs ρ1 H1 ok1 s1 r1 h1 => ?_, hx.e⟩
  match ds, h1 with
  | [d], hE =>
    obtain ⟨y, rfl, ry⟩ := r1.one
    refine ⟨by simp, fun a ha => ⟨a, C, y, rfl, h2, h3, upd_same, fun dx hdx hne => ⟨rfl, dx, [(f, y)], upd_same, ?_, ?_, ?_⟩⟩⟩
    · rw [upd_ne hne, upd_same]
    · rw [upd_ne hne] at hdx
      exact hdx
    · rw [upd_ne hne] at hdx
      have e1 : upd (del (upd (upd (upd H1 a (exo a C none)) dx (exd dx [(f, y)])) a (exo a C (some dx))) a) dx (HO.xd [(f, y)]) = upd H1 dx (.xd [(f, y)]) := by
        funext b
        by_cases hb : b = dx
        · rw [hb, upd_same, upd_same]
        · rw [upd_ne hb, upd_ne hb]
          by_cases hb2 : b = a
          · rw [hb2, del_same, ha]
          · rw [del_ne hb2, upd_ne hb2, upd_ne hb, upd_ne hb2]
      rw [e1]
      have sm : Same H1 (upd H1 dx (.xd [(f, y)])) := same_upd hdx
      exact hx ⟨n, some (f, d)⟩ (.ref C) (some dx) σ ρ1 _ (ok1.ext sm) (s1.trans (.ext sm)) ⟨C, hC, rfl, dx, [(f, y)], y, rfl, upd_same, by simp [List.lookup], ry.sub ((show Sub (vis H1 _) H1 from fun a o z _ => (vis_some.mp z).2).trans fun a o z _ => sm a o z)⟩ hE
end
/-! ### the class's __init__, as it is written -/
theorem excP_of {P : Program} {w : World} {base : Heap} {Z : Zx} {N : List Str} {C fI B : Addr} {fd : FuncData} {n f a m qual : Str} {mc : Value} {params : Arguments} {scope : Scope} {j : Nat} {q1 q2 q3 q4 q5 q6 q7 q8 q9 q10 : Pos}
    (hm : Z.mg n = some (.ref C)) (T : OexC Z.K C) (hf : PySem.W.findIn Z.K (.ref C) f = some none) (iC : PySem.W.findIn Z.K (.ref C) "__init__" = some (some (.ref fI))) (tI : PySem.W.typeIn Z.K (.ref fI) = some (.type "function"))
    (FD : FunD Z.K "__init__" qual params [.Expr (.Call (.Attribute (.Name "ShareError" q1) "__init__" q2) [.Name "self" q3, .Constant (.str m) j q4] [] q5) q6, .Assign [.Attribute (.Name "self" q7) f q8] (.Name a q9) q10] scope [] [] fI fd)
    (S : FnScope [("self" : Str), a] [("self" : Str), a] scope)
    (hb : ∀ (kV doc pm : Value) (an : Option Addr) (cdv ct : Value) (us : List Value), us.length = 2 → bindArgs (PySem.W.fnOf "__init__" qual params [.Expr (.Call (.Attribute (.Name "ShareError" q1) "__init__" q2) [.Name "self" q3, .Constant (.str m) j q4] [] q5) q6, .Assign [.Attribute (.Name "self" q7) f q8] (.Name a q9) q10] scope .none kV doc pm an cdv ct) ⟨us, []⟩ = pure ([("self" : Str), a].zip us))
    (hB : Z.mg "ShareError" = some (.ref B)) (rd : CRead Z.K B mc) (vV : PySem.W.findCls Z.K (.ref B) mc "__init__" = some (.val (.builtin "ValueError.__init__")))
    {pl : Env → Sem Bool} (hc : ∀ env : Env, eval (.Call (.Attribute (.Name "ShareError" q1) "__init__" q2) [.Name "self" q3, .Constant (.str m) j q4] [] q5) env = (do
      let ov ← eval (.Name "ShareError" q1) env
      standAt q2.atName
      let (f, first) ← holding [ov] (getMethod ov "__init__" (pl env))
      callWith q5 f first (backTo q5 (starEach [.Name "self" q3, .Constant (.str m) j q4] env)) (backToKw q5 (keywordEach [] env))))
    (h1 : scope.names.lookup ("self" : Str) = some .local) (h2 : scope.names.lookup a = some .local) (h3 : scope.names.lookup ("ShareError" : Str) = some .globalImplicit) (ha : (a == ("__debug__" : Str)) = false) (ha2 : (a == ("__classdict__" : Str)) = false) : ExcP P w base Z 1 n f := by
  refine ⟨C, fI, fd, [("self" : Str), a], hm, T, hf, iC, tI, FD.ok (k := 0) S (fun vs H Q E h => ?_) (fun cdv A outer s H vs Q E hr h => ?_), FD.bindsN hb⟩
  · obtain ⟨e, C', y, rfl, _⟩ := h
    rfl
  · obtain ⟨e, C', y, rfl, T', hf', he, hq⟩ := h
    refine ⟨_, pss_cons (ps_expr (pe_binit (x := "ShareError") (B := B) (mc := mc) h3 hB rd vV (pa_cons (pe_var (i := 0) rfl (.inl h1) (by decide) (by decide)) (pa_cons pe_str pa_nil)) (by decide) (hc _) rfl rfl)) (pss_one (ps_ost (pe_var (i := 0) rfl (.inl h1) (by decide) (by decide)) (pe_var (i := 1) rfl (.inl h2) ha ha2))), ?_⟩
    exact ⟨_, rfl, e, C', [.str m], rfl, by simp, T', he, y, rfl, .ref e, rfl, e, C', rfl, T', hf', .inl ⟨he, fun dx h1 h2 => hq dx h1 h2⟩⟩
/-! ### try: .. except n as e: return e.f -/
def sTryF (n f : Str) (i : Nat) (t : DS) : DS := fun B E ρ => t B (fun x ρ' => x.cls = n ∧ i < ρ'.length ∧ ∃ k, x.pay = some (f, .int k) ∧ B.rt (.int k) ρ') ρ
section
variable {X : Cx} {Z : Zx} {W : WX}
/-- what the clause reads of the class -/
structure ExcR (Z : Zx) (n f : Str) : Prop where
  ex : ∃ C, Z.mg n = some (.ref C) ∧ XfC Z.K C ∧ PySem.W.findIn Z.K (.ref C) f = some none ∧ PySem.W.exmOne Z.K (.ref C) (.ref C) = some true
theorem ds_tryF [F : Fit X Z] {n f e : Str} {i : Nat} {body : List Stmt} {t : DS} {np p1 p2 p3 pos' pos : Pos} (xr : ExcR Z n f)
    (hN : X.N.Nodup) (tk : L2N.Takes X W) (hb : ∀ (W : WX) (pn : List (Addr × Obj)) (xe : Value → Shared → Prop), L2N.Takes (X.tr pn xe) W → PassesOwn (model X.prog X.w) X.A X.env xe → PSs (X.tr pn xe) body (upS Z W t))
    (hs : X.stack = X.env :: X.outer := by rfl) (hf : X.env.frame = some X.env.locals := by rfl) (hi : X.N[i]? = some e := by rfl) (hln : X.env.kindOf e = some .local := by rfl) (hg : Gl X n := by rfl) (hdb : (n == ("__debug__" : Str)) = false := by decide)
    (hd : (e == ("__debug__" : Str)) = false := by decide) (hcd : (e == ("__classdict__" : Str)) = false := by decide) (hbs : attributeBase (.Name e p1) f X.env (eval (.Name e p1) X.env) = eval (.Name e p1) X.env := by rfl) :
    PS X (.Try body [.ExceptHandler (some (.Name n np)) (some e) [.Return (some (.Attribute (.Name e p1) f p2)) p3] pos'] [] [] pos) (upS Z W (sTryF n f i t)) := by
  obtain ⟨C, hm, T, hno, hx1⟩ := xr.ex
  have hK := F.K
  have hM := F.mg
  refine PS.wk (L2N.ps_try_as (c := .ref C) (i := i) (n := e) (tb := fun W => upS Z W t) (Wout := W) hs hf hN hi hln ⟨hg, hdb, .inl (by rw [hM]; exact hm)⟩ tk hb fun a oe cls d pn hz hv => pss_one (ps_ret (pe_xf (C := C) (by rw [hK]; exact T) (by rw [hK]; exact hno) hz.zc hv (pe_var (i := i) hi (.inl hln) hd hcd) hbs))) ?_
  rintro B σ H ⟨ρ, G, DD, E, ok, h, hq, hx⟩
  refine ⟨ρ, G, DD, _, ok, h, hq, fun x c dd σ' ρ' H' ok' s' p hE => ?_⟩
  obtain ⟨h1, hlt, k, h2, h3⟩ := hE
  obtain ⟨C', e1, e2, e3⟩ := p
  rw [h1, hm] at e1
  cases e1
  rw [h2] at e3
  obtain ⟨d, fs, v, g1, g2, g3, g4⟩ := e3
  refine ⟨true, by rw [e2, hK]; exact hx1, fun _ a na => ?_, fun z => by cases z⟩
  exact ⟨.ref a, by rw [List.getElem?_set_self (by rw [← ok'.len]; exact hlt)], rfl, e2, d, fs, v, g1, g2, g3, (hq σ' ρ' H' ok' s').2.2.2 (.int k) v g4 h3⟩
end
end TS
set_option Elab.async false
set_option linter.all false
set_option maxRecDepth 100000
set_option maxHeartbeats 4000000
set_option exponentiation.threshold 10000
/-! slices of texts; a text times an int; the first place of an item that is data of any depth -/
namespace TS
open PySem PySem.Spec PyProof.Rows L2
/-- text[lo:hi] -/
def dSlS (t : DE) (lo hi : DO) : DE := fun ρ Q E => t ρ (fun x ρ1 => lo ρ1 (fun l ρ2 => hi ρ2 (fun h ρ3 => ∃ a : Str, x = .str a ∧ a.length ≤ LIM ∧ Q (.str (cutS a l h)) ρ3) E) E) E
/-- text * k -/
def oRepS : O2
  | .str x, .int k, Q => (2 ≤ k ∧ k ≤ 1000 ∧ 1 ≤ x.length ∧ x.length ≤ 1000) ∧ Q (.str ⟨((List.replicate k.toNat x.cps.toList).flatten).toArray⟩)
  | _, _, _ => False
def rRepS : R2 := fun x y H Q => ∃ z k, x = .str z ∧ y = .int k ∧ (2 ≤ k ∧ k ≤ 1000 ∧ 1 ≤ z.length ∧ z.length ≤ 1000) ∧ Q (.str ⟨((List.replicate k.toNat z.cps.toList).flatten).toArray⟩) H
/-- e.index(x) of a list of data of any depth -/
def dIxD (te : DE) (tx : DA) : DE := fun ρ Q E => te ρ (fun d ρ1 => ∃ ds, d = .lst ds ∧ tx ρ1 (fun xs ρ2 => ∃ x j, xs = [x] ∧ (okD 50 x = true ∧ ds.all (okD 50) = true) ∧ ixOf (fun y => eqD y x) ds = some j ∧ Q (.int (j : Nat)) ρ2) E) E
theorem foldl_app (xs : List Nat) : ∀ (n : Nat) (acc : List Nat), (List.replicate n xs.toArray).foldl (· ++ ·) acc.toArray = (acc ++ (List.replicate n xs).flatten).toArray
  | 0, acc => by simp
  | n + 1, acc => by
    have := foldl_app xs n (acc ++ xs)
    simp only [List.replicate_succ, List.foldl_cons, List.flatten_cons]
    rw [show acc.toArray ++ xs.toArray = (acc ++ xs).toArray by simp, this, List.append_assoc]
theorem pyL_map : ∀ ds : List D, D.pyL ds = ds.map D.py
  | [] => rfl
  | d :: ds => by
    simp only [D.pyL, List.map_cons, pyL_map ds]
section
variable {X : Cx} {Z : Zx} {W : WX}
theorem de_sliceS [F : Fit X Z] {e : Expr} {lo hi : Option Expr} {t : DE} {tl th : DO} {pos p2 : Pos} (he : PE X e (upE Z W t)) (hl : PO X lo (upO Z W tl)) (hh : PO X hi (upO Z W th)) :
    PE X (.Subscript e (.Slice lo hi none p2) pos) (upE Z W (dSlS t tl th)) := PE.wk (pe_slice sl_str he hl hh) fun σ H Q ⟨ρ, G, Qd, E, ok, h, hq, hx⟩ => by
  refine ⟨ρ, G, _, E, ok, h, fun x v ρ1 H1 ok1 s1 r1 h1 => ?_, hx⟩
  refine ⟨ρ1, G, _, E, ok1, h1, fun l ρ2 H2 ok2 s2 h2 => ?_, hx.step s1⟩
  refine ⟨ρ2, G, _, E, ok2, h2, fun u ρ3 H3 ok3 s3 h3 => ?_, hx.step (s1.trans s2)⟩
  obtain ⟨a, rfl, hz, q⟩ := h3
  exact ⟨a, r1, by have := LIM2 hz; omega, hq (.str _) _ ρ3 H3 ok3 ((s1.trans s2).trans s3) rfl q⟩
theorem op_repS : OpR X (binaryOp .Mult) rRepS := by
  intro pins s σ H x y v u Q I rx ry h
  obtain ⟨z, k, rfl, rfl, ⟨h1, h2, h3, h4⟩, q⟩ := h
  obtain ⟨t, rfl⟩ := rx
  obtain ⟨t2, rfl⟩ := ry
  have n1 : ¬ k < 1 := by omega
  have n2 : (k == 1 || z.length == 0) = false := by
    have a : (k == 1) = false := beq_eq_false_iff_ne.mpr (by omega)
    have b : (z.length == 0) = false := beq_eq_false_iff_ne.mpr (by omega)
    rw [a, b]; rfl
  have hk : k.toNat ≤ 1000 := by omega
  have hm : z.length * k.toNat ≤ 1000 * 1000 := Nat.mul_le_mul h4 hk
  have tl : PySem.Builtin.Str.tooLong (z.length * k.toNat) = false := by
    unfold PySem.Builtin.Str.tooLong
    exact decide_eq_false (by rw [sizeLine_eq]; omega)
  refine PySem.P.mul_str ?_ (fun _ _ => ?_) (fun _ _ => tl) ?_
  · have a : ¬ k < -(2 ^ 63 : Int) := by omega
    have b : ¬ k ≥ 2 ^ 63 := by omega
    rw [decide_eq_false a, decide_eq_false b]; rfl
  · have : ((2 : Int) ^ 63 - 1) / k ≥ (2 ^ 63 - 1) / 1000 := by
      have e1 := Int.mul_ediv_add_emod ((2 : Int) ^ 63 - 1) k
      refine (Int.le_ediv_iff_mul_le (by omega)).mpr ?_
      refine Int.le_trans (Int.mul_le_mul_of_nonneg_left h2 (by decide)) (by decide)
    omega
  · rw [if_neg n1, if_neg (by rw [n2]; decide)]
    have e := foldl_app z.cps.toList k.toNat []
    have e' : (List.replicate k.toNat z.cps).foldl (· ++ ·) #[] = ((List.replicate k.toNat z.cps.toList).flatten).toArray := by
      have : z.cps.toList.toArray = z.cps := by simp
      rw [this] at e
      simpa using e
    have fit := PySem.fits_reps tl
    rw [e'] at fit ⊢
    refine ⟨fit, ⟨.str _, H, I.tok _, ⟨_, rfl⟩, q⟩⟩
theorem ok_repS : OpOk Z rRepS oRepS := by
  intro σ ρ H G x y v u Qd Q ok rx ry h hq
  cases x with
  | str a =>
    cases y with
    | int k =>
      cases rx
      cases ry
      exact ⟨a, k, rfl, rfl, h.1, hq (.str _) _ H (.refl H) rfl h.2⟩
    | _ => exact h.elim
  | _ => cases y <;> exact h.elim
theorem de_ixD [F : Fit X Z] {o e : Expr} {te : DE} {tx : DA} {apos cpos : Pos} (hu : X.A.units + 65 < cLine) (ho : PE X o (upE Z W te)) (ha : PA X [e] (upA Z W tx)) (hbase : attributeBase o "index" X.env (eval o X.env) = eval o X.env := by rfl)
    (hfew : ((backTo cpos (starEach [e] X.env)).all (fun x => !x.1) && (backToKw cpos (keywordEach [] X.env)).all (fun x => x.1.isSome) && decide ([e].length + ([] : List Keyword).length + (if ([] : List Keyword).isEmpty then 0 else 1) < 30)) = true := by rfl)
    (hline : (apos.endLine == cpos.line) = true := by rfl) (hs : starEach [e] X.env = (false, eval e X.env) :: starEach [] X.env := by rfl) (hpl : (backTo cpos (starEach [] X.env)).any (·.1) = false := by rfl) :
    PE X (.Call (.Attribute o "index" apos) [e] [] cpos) (upE Z W (dIxD te tx)) := PE.wk (pe_bm PySem.F.plainAttrs_list PySem.F.slot_list_index PySem.F.type_list_index (mt_indexD hu) ho ha hbase hfew hline hs hpl) fun σ H Q ⟨ρ, G, Qd, E, ok, h, hq, hx⟩ => by
  refine ⟨ρ, G, _, E, ok, h, fun d v ρ1 H1 ok1 s1 r1 h1 => ?_, hx⟩
  obtain ⟨ds, rfl, h1⟩ := h1
  obtain ⟨a, vs, rfl, e1, r⟩ := r1
  refine ⟨.inl ⟨rfl, vs, .of (vis_some.mp e1).2⟩, ρ1, G, _, E, ok1, h1, fun xs ws ρ2 H2 ok2 s2 r2 h2 => ?_, hx.step s1⟩
  obtain ⟨x, j, rfl, ⟨f1, f2⟩, h3, h4⟩ := h2
  obtain ⟨u, rfl, ru⟩ := r2.one
  have e2 := s2.vis (G := G) _ _ e1 (fun z => z)
  have r' : RpL Z (vis H2 (Hid ρ2 σ G)) ds vs := r.sub s2.vis
  have rl : Rp Z (vis H2 (Hid ρ2 σ G)) (.lst ds) (.ref a) := ⟨a, vs, rfl, e2, r'⟩
  obtain ⟨⟨d, h5, h6⟩, h7⟩ := ixOf_some h3
  have hx1 := okD_mono 50 60 x (by decide) f1
  have hd : okD 60 (.lst ds) = true := by
    simp only [okD, List.all_eq_true] at f2 ⊢
    exact fun d q => okD_mono 50 59 d (by decide) (f2 d q)
  have b1 := okD_bare _ _ hx1
  have b2 := okD_bare _ _ hd
  have bd : ∀ d ∈ ds, bare d = true := fun d q => okD_bare 50 d (List.all_eq_true.mp f2 d q)
  refine ⟨a, u, x.py, D.pyL ds, j, d.py, rfl, rfl, by rw [F.K]; exact Rp.dp (.lst ds) _ b2 rl, by rw [F.K]; exact Rp.dp x u b1 ru, okD_shaped hd, okD_shaped hx1, by rw [pyL_map, List.getElem?_map, h5]; rfl,
    by rw [eqD_py d x (bd d (List.mem_of_getElem? h5)) b1]; exact h6, fun m z' hm hz => ?_, hq (.int (j : Nat)) _ ρ2 H2 ok2 (s1.trans s2) rfl h4⟩
  rw [pyL_map, List.getElem?_map] at hz
  obtain ⟨d', h8, rfl⟩ := Option.map_eq_some_iff.mp hz
  rw [eqD_py d' x (bd d' (List.mem_of_getElem? h8)) b1]
  exact h7 m hm d' h8
end
end TS
set_option Elab.async false
set_option linter.all false
set_option maxRecDepth 100000
set_option maxHeartbeats 1000000
set_option exponentiation.threshold 10000
/-! WG and WH: what simp takes, and that the readings are monotone -/
namespace TS
open PySem PySem.Spec PyProof.Rows L2
section
variable {ρ : Rho} {E : EQ} {B : DEnds}
@[simp] theorem dSlS_s {t : DE} {lo hi : DO} {Q : D → Rho → Prop} : dSlS t lo hi ρ Q E = t ρ (fun x ρ1 => lo ρ1 (fun l ρ2 => hi ρ2 (fun h ρ3 => ∃ a : Str, x = .str a ∧ a.length ≤ LIM ∧ Q (.str (cutS a l h)) ρ3) E) E) E := (rfl)
@[simp] theorem oRepS_s {x : Str} {k : Int} {Q : D → Prop} : oRepS (.str x) (.int k) Q = ((2 ≤ k ∧ k ≤ 1000 ∧ 1 ≤ x.length ∧ x.length ≤ 1000) ∧ Q (.str ⟨((List.replicate k.toNat x.cps.toList).flatten).toArray⟩)) := (rfl)
@[simp] theorem oInL_s {x : D} {ds : List D} {Q : D → Prop} : oInL x (.lst ds) Q = ((okD 50 x = true ∧ ds.all (okD 50) = true) ∧ Q (.bl (ds.any fun y => eqD y x))) := (rfl)
@[simp] theorem dIxD_s {te : DE} {tx : DA} {Q : D → Rho → Prop} : dIxD te tx ρ Q E = te ρ (fun d ρ1 => ∃ ds, d = .lst ds ∧ tx ρ1 (fun xs ρ2 => ∃ x j, xs = [x] ∧ (okD 50 x = true ∧ ds.all (okD 50) = true) ∧ ixOf (fun y => eqD y x) ds = some j ∧ Q (.int (j : Nat)) ρ2) E) E := (rfl)
@[simp] theorem sRaiseP_s {n f : Str} {t : DE} : sRaiseP n f t B E ρ = t ρ (fun d ρ' => E ⟨n, some (f, d)⟩ ρ') E := (rfl)
@[simp] theorem sTryF_s {n f : Str} {i : Nat} {t : DS} : sTryF n f i t B E ρ = t B (fun x ρ' => x.cls = n ∧ i < ρ'.length ∧ ∃ k, x.pay = some (f, .int k) ∧ B.rt (.int k) ρ') ρ := (rfl)
end
instance {t : DE} {lo hi : DO} [M : ME t] [N : MOp lo] [O : MOp hi] : ME (dSlS t lo hi) := ⟨fun ρ Q Q' E E' hq hx h => M.m ρ _ _ _ _ (fun x s => N.m s _ _ _ _ (fun l s => O.m s _ _ _ _ (fun u s ⟨a, e, f, q⟩ => ⟨a, e, f, hq _ s q⟩) hx) hx) hx h⟩
instance : MO oRepS := ⟨by intro x y Q Q' hq h; cases x <;> cases y <;> first | exact h.elim | exact ⟨h.1, hq _ h.2⟩⟩
instance {te : DE} {tx : DA} [M : ME te] [N : MA tx] : ME (dIxD te tx) := ⟨fun ρ Q Q' E E' hq hx h => M.m ρ _ _ _ _ (fun x s ⟨ds, e, q⟩ => ⟨ds, e, N.m s _ _ _ _ (fun y s ⟨a, b, c, d, e, q⟩ => ⟨a, b, c, d, e, hq _ s q⟩) hx q⟩) hx h⟩
instance {n f : Str} {t : DE} [M : ME t] : MS (sRaiseP n f t) := ⟨fun B B' E E' ρ b hx h => M.m ρ _ _ _ _ (fun d s q => hx _ _ q) hx h⟩
instance {n f : Str} {i : Nat} {t : DS} [M : MS t] : MS (sTryF n f i t) := ⟨fun B B' E E' ρ b hx h => M.m B B' _ _ ρ b (fun x s ⟨h1, h2, k, h3, h4⟩ => ⟨h1, h2, k, h3, b.rt _ _ h4⟩) h⟩
end TS
set_option Elab.async false
set_option linter.all false
set_option maxRecDepth 100000
set_option maxHeartbeats 1000000
set_option exponentiation.threshold 10000
/-! texts that may be wrong: what is read of them -/
namespace TS
open PySem PySem.Spec PyProof.Rows L2 SX
/-! ### a text cut at a sign -/
abbrev sp1 (c : Nat) (l : List Nat) : List (List Nat) := TL.spl [c] 0 [] l
theorem pre_one {c x : Nat} {r : List Nat} : TL.pre [c] (x :: r) = decide (x = c) := by
  show ((x :: r).take 1 == [c]) = _
  by_cases h : x = c
  · subst h; simp
  · simp [h]
theorem spl_step {c x : Nat} {acc r : List Nat} : TL.spl [c] 0 acc (x :: r) = if x = c then acc :: TL.spl [c] 0 [] r else TL.spl [c] 0 (acc ++ [x]) r := by
  show (if TL.pre [c] (x :: r) = true then acc :: TL.spl [c] ([c].length - 1) [] r else TL.spl [c] 0 (acc ++ [x]) r) = _
  rw [pre_one]
  by_cases h : x = c <;> simp [h]
theorem spl_count {c : Nat} : ∀ (l acc : List Nat), (TL.spl [c] 0 acc l).length = l.count c + 1
  | [], acc => by simp [TL.spl_nil]
  | x :: r, acc => by
    rw [spl_step]
    by_cases h : x = c
    · subst h; simp [spl_count r []]
    · simp [h, spl_count r (acc ++ [x])]
theorem spl_mem {c : Nat} : ∀ (l acc : List Nat), ∀ p ∈ TL.spl [c] 0 acc l, ∀ x ∈ p, x ∈ acc ∨ x ∈ l
  | [], acc, p, hp, x, hx => by
    rw [TL.spl_nil] at hp
    rw [List.mem_singleton.mp hp] at hx
    exact .inl hx
  | y :: r, acc, p, hp, x, hx => by
    rw [spl_step] at hp
    by_cases h : y = c
    · rw [if_pos h] at hp
      rcases List.mem_cons.mp hp with rfl | hp
      · exact .inl hx
      · rcases spl_mem r [] p hp x hx with z | z
        · cases z
        · exact .inr (List.mem_cons_of_mem _ z)
    · rw [if_neg h] at hp
      rcases spl_mem r (acc ++ [y]) p hp x hx with z | z
      · rcases List.mem_append.mp z with z | z
        · exact .inl z
        · exact .inr (by rw [List.mem_singleton.mp z]; exact List.mem_cons_self ..)
      · exact .inr (List.mem_cons_of_mem _ z)
theorem spl_free1 {c : Nat} : ∀ (l acc : List Nat), c ∉ acc → ∀ p ∈ TL.spl [c] 0 acc l, c ∉ p
  | [], acc, h, p, hp => by
    rw [TL.spl_nil] at hp
    rw [List.mem_singleton.mp hp]
    exact h
  | y :: r, acc, h, p, hp => by
    rw [spl_step] at hp
    by_cases e : y = c
    · rw [if_pos e] at hp
      rcases List.mem_cons.mp hp with rfl | hp
      · exact h
      · exact spl_free1 r [] (by simp) p hp
    · rw [if_neg e] at hp
      exact spl_free1 r (acc ++ [y]) (by simp [h]; exact fun z => e z.symm) p hp
def lenS (ps : List (List Nat)) : Nat := (ps.map (·.length)).sum
theorem lenS_app {a b : List (List Nat)} : lenS (a ++ b) = lenS a + lenS b := by simp [lenS]
theorem lenS_cons {a : List Nat} {b : List (List Nat)} : lenS (a :: b) = a.length + lenS b := by simp [lenS]
theorem lenS_cut (a : List (List Nat)) (i : Nat) : lenS (a.take i) + lenS (a.drop i) = lenS a := by rw [← lenS_app, List.take_append_drop]
theorem lenS_mem : ∀ {a : List (List Nat)} {p : List Nat}, p ∈ a → p.length ≤ lenS a
  | q :: a, p, h => by
    rw [lenS_cons]
    rcases List.mem_cons.mp h with rfl | h
    · omega
    · have := lenS_mem h
      omega
theorem spl_lens {c : Nat} : ∀ (l acc : List Nat), lenS (TL.spl [c] 0 acc l) + l.count c = acc.length + l.length
  | [], acc => by simp [TL.spl_nil, lenS]
  | x :: r, acc => by
    rw [spl_step]
    by_cases h : x = c
    · subst h
      have := spl_lens (c := x) r []
      simp [lenS_cons] at this ⊢
      omega
    · have := spl_lens (c := c) r (acc ++ [x])
      simp [h] at this ⊢
      omega
theorem joinL_len {c : Nat} : ∀ {ps : List (List Nat)}, (TL.joinL [c] ps).length ≤ lenS ps + (ps.length - 1)
  | [] => by simp [TL.joinL]
  | [p] => by simp [TL.joinL, lenS]
  | p :: q :: r => by
    have := joinL_len (c := c) (ps := q :: r)
    rw [lenS_cons]
    simp only [TL.joinL, List.length_append, List.length_cons, List.length_nil] at this ⊢
    omega
theorem joinL_count {c : Nat} : ∀ {ps : List (List Nat)}, (∀ p ∈ ps, c ∉ p) → (TL.joinL [c] ps).count c ≤ ps.length - 1
  | [], _ => by simp [TL.joinL]
  | [p], h => by
    have := h p (by simp)
    simp [TL.joinL, List.count_eq_zero.mpr this]
  | p :: q :: r, h => by
    have i := joinL_count (c := c) (ps := q :: r) fun x hx => h x (List.mem_cons_of_mem _ hx)
    have := List.count_eq_zero.mpr (h p (by simp))
    simp only [TL.joinL, List.count_append, List.length_cons, this] at i ⊢
    simp
    omega
theorem joinL_mem {c : Nat} : ∀ {ps : List (List Nat)}, ∀ x ∈ TL.joinL [c] ps, x = c ∨ ∃ p ∈ ps, x ∈ p
  | [], x, h => by simp [TL.joinL] at h
  | [p], x, h => .inr ⟨p, by simp, by simpa [TL.joinL] using h⟩
  | p :: q :: r, x, h => by
    simp only [TL.joinL, List.mem_append, List.mem_singleton] at h
    rcases h with h | h | h
    · exact .inr ⟨p, by simp, h⟩
    · exact .inl h
    · rcases joinL_mem x h with h | ⟨y, hy, h⟩
      · exact .inl h
      · exact .inr ⟨y, List.mem_cons_of_mem _ hy, h⟩
/-! ### numbers -/
def digL (a : List Nat) : Bool := a.all fun c => decide (48 ≤ c) && decide (c ≤ 57)
def canon (a : List Nat) : Bool := !a.isEmpty && digL a && (a == [48] || a.head? != some 48)
def valN (a : List Nat) : Int := (NumText.digitsVal a : Nat)
def numO (low : Int) (a : List Nat) : Option Int := if canon a = true ∧ low ≤ valN a ∧ valN a ≤ 1000000000000000000000000000000 then some (valN a) else none
theorem val_snoc (a : List Nat) (c : Nat) : NumText.digitsVal (a ++ [c]) = NumText.digitsVal a * 10 + (c - 48) := by simp [NumText.digitsVal, List.foldl_append]
theorem digL_iff {a : List Nat} : digL a = true ↔ ∀ c ∈ a, 48 ≤ c ∧ c ≤ 57 := by simp [digL]
theorem val_pos : ∀ (l : List Nat) (c : Nat), 49 ≤ c → 1 ≤ NumText.digitsVal (c :: l) := by
  have key : ∀ (l : List Nat) (v : Nat), 1 ≤ v → 1 ≤ l.foldl (fun acc c => acc * 10 + (c - 48)) v := by
    intro l
    induction l with
    | nil => intro v h; exact h
    | cons c l ih => intro v h; exact ih (v * 10 + (c - 48)) (by omega)
  intro l c h
  exact key l (0 * 10 + (c - 48)) (by omega)
theorem canon_num {a : List Nat} (h : canon a = true) : TL.numL (NumText.digitsVal a) = a := by
  have key : ∀ (n : Nat) (a : List Nat), a.length = n → canon a = true → TL.numL (NumText.digitsVal a) = a := by
    intro n
    induction n with
    | zero =>
      intro a hl h
      rw [List.eq_nil_of_length_eq_zero hl] at h
      cases h
    | succ n ih =>
      intro a hl h
      simp only [canon, Bool.and_eq_true, Bool.or_eq_true, Bool.not_eq_true'] at h
      obtain ⟨⟨h1, h2⟩, h3⟩ := h
      have dg := digL_iff.mp h2
      rcases List.eq_nil_or_concat a with rfl | ⟨b, c, rfl⟩
      · cases h1
      · rw [List.concat_eq_append] at *
        have hc := dg c (by simp)
        rw [val_snoc]
        cases b with
        | nil =>
          have : NumText.digitsVal [] * 10 + (c - 48) = c - 48 := by simp [NumText.digitsVal]
          rw [this, TL.numL_lt (by omega)]
          simp
          omega
        | cons d b =>
          have hd := dg d (by simp)
          have d49 : 49 ≤ d := by
            rcases h3 with h3 | h3
            · simp at h3
            · simp at h3
              omega
          have p := val_pos b d d49
          have cb : canon (d :: b) = true := by
            simp only [canon, Bool.and_eq_true, Bool.or_eq_true, Bool.not_eq_true']
            refine ⟨⟨rfl, digL_iff.mpr fun x hx => dg x (List.mem_append_left _ hx)⟩, .inr ?_⟩
            simp
            omega
          have e := ih (d :: b) (by simp at hl ⊢; omega) cb
          generalize hv : NumText.digitsVal (d :: b) = v at *
          rw [TL.numL_step (by omega), show (v * 10 + (c - 48)) / 10 = v by omega, show (v * 10 + (c - 48)) % 10 = c - 48 by omega, e, show 48 + (c - 48) = c by omega]
  exact key _ a rfl h
theorem numL_head : ∀ n : Nat, 1 ≤ n → (TL.numL n).head? ≠ some 48 := by
  intro n
  induction n using Nat.strongRecOn with
  | _ n ih =>
    intro h
    by_cases h10 : n < 10
    · rw [TL.numL_lt h10]
      simp
      omega
    · rw [TL.numL_step (by omega)]
      have := ih (n / 10) (by omega) (by omega)
      have ne := TL.numL_ne (n / 10)
      cases hx : TL.numL (n / 10) with
      | nil => exact absurd hx ne
      | cons a b =>
        rw [hx] at this
        simpa using this
theorem num_canon (n : Nat) : canon (TL.numL n) = true := by
  simp only [canon, Bool.and_eq_true, Bool.or_eq_true, Bool.not_eq_true']
  refine ⟨⟨?_, digL_iff.mpr (TL.numL_digits n)⟩, ?_⟩
  · have := TL.numL_ne n
    cases hx : TL.numL n with
    | nil => exact absurd hx this
    | cons a b => rfl
  · by_cases h : n = 0
    · subst h
      exact .inl (by rw [TL.numL_lt (by decide)]; rfl)
    · exact .inr (by have := numL_head n (by omega); simpa using this)
theorem canon_iff {a : List Nat} : TL.numL (NumText.digitsVal a) = a ↔ canon a = true := ⟨fun h => by rw [← h]; exact num_canon _, canon_num⟩
theorem canon_len {a : List Nat} (h : canon a = true) (hv : valN a ≤ 1000000000000000000000000000000) : a.length ≤ 31 := by
  rw [← canon_num h]
  unfold valN at hv
  exact TL.numL_len (by decide) (by omega)
theorem val_len (a : List Nat) (h : digL a = true) : NumText.digitsVal a < 10 ^ a.length := by
  have key : ∀ (n : Nat) (a : List Nat), a.length = n → digL a = true → NumText.digitsVal a < 10 ^ a.length := by
    intro n
    induction n with
    | zero =>
      intro a hl h
      rw [List.eq_nil_of_length_eq_zero hl]
      decide
    | succ n ih =>
      intro a hl h
      rcases List.eq_nil_or_concat a with rfl | ⟨b, c, rfl⟩
      · cases hl
      · rw [List.concat_eq_append] at *
        have dg := digL_iff.mp h
        have hc := dg c (by simp)
        have hb := ih b (by simpa using hl) (digL_iff.mpr fun x hx => dg x (by simp [hx]))
        rw [val_snoc, List.length_append, List.length_singleton, Nat.pow_succ]
        omega
  exact key _ a rfl h
theorem int_any {a : List Nat} (h : digL a = true) (ne : a ≠ []) (hl : a.length ≤ 640) : PySem.intText? (S a) = some (valN a) := SX.int_S h ne (by omega)
theorem valN_0 (a : List Nat) : 0 ≤ valN a := by unfold valN; omega
theorem num_val {a : List Nat} : numI (valN a) = TL.numL (NumText.digitsVal a) := by unfold numI valN; rw [Int.toNat_natCast]
/-! ### lines -/
def sizeO (l : List Nat) : Option Int := match sp1 32 l with
  | [w, a] => if w = wSize then numO 1 a else none
  | _ => none
def fenO (f : List Nat) : Option (Option Int) := if f = [45] then some none else if f = [48] then some (some 0) else if f = [49] then some (some 1) else none
def kindW : List (List Nat) := [[48], [49], [50], [48, 49], [48, 50], [49, 50], [48, 49, 50]]
def kindO (k : List Nat) : Option (List Int) := if k ∈ kindW then some (k.map fun (c : Nat) => (c : Int) - 48) else none
def keepO (p : List Nat) : Option Bool := if p = wKept then some true else if p = wFree then some false else none
def wayW (a b c f k p : List Nat) : Option Wy := match numO 0 a, numO 0 b, numO 0 c, fenO f, kindO k, keepO p with
  | some a, some b, some c, some f, some k, some p => if a ≤ 1 ∧ b < 1000000000000000000000000000000 then some ⟨a, b, c, f, k, p⟩ else none
  | _, _, _, _, _, _ => none
def wayO (l : List Nat) : Option Wy := match sp1 32 l with
  | [w, a, b, c, f, k, p] => if w = wWay then wayW a b c f k p else none
  | _ => none
def wayD : Option Wy → D
  | none => .non
  | some w => w.d
def lineD (l : List Nat) : D := match sizeO l with
  | some n => .int n
  | none => wayD (wayO l)
def badAt : Nat → List (List Nat) → Option Nat
  | _, [] => none
  | i, l :: ls => if isNon (lineD l) = true then some (i + 1) else badAt (i + 1) ls
def houseO (ls : List (List Nat)) : D := .tup [optD (sizeO (ls.headD [])), .tup (ls.tail.map fun l => wayD (wayO l))]
def dueD (l : List Nat) : D := match badAt 0 (sp1 10 l) with
  | some n => .int (n : Nat)
  | none => if hasHouse (houseO (sp1 10 l)) = true then houseO (sp1 10 l) else .int ((sp1 10 l).length + 1 : Nat)
def TxO (l : List Nat) : Prop := l.length ≤ 500000 ∧ ∀ c ∈ l, c < 128
def TxT (l : List Nat) : Prop := TxO l ∧ l.count 10 ≤ 100
/-! ### what the defs give -/
def S_number_of : SV
  | [.str a, .int low], Q, _ => ∃ l, a = S l ∧ TxO l ∧ 0 ≤ low ∧ Q (optD (numO low l))
  | _, _, _ => False
abbrev F_number_of : FS := FV S_number_of
instance : MSV S_number_of := ⟨fun ds Q Q' E E' hq hx => by
  unfold S_number_of
  split <;> repeat' (first | exact fun h => h | exact fun h => h.elim | exact hq _ | exact hq _ _ | exact hx _ | exact hx _ _ | apply And.imp | apply Or.imp | (apply Exists.imp; intro _) | (apply forall_imp; intro _))⟩
def S_size_of : SV
  | [.str a], Q, _ => ∃ l, a = S l ∧ TxO l ∧ Q (optD (sizeO l))
  | _, _, _ => False
abbrev F_size_of : FS := FV S_size_of
instance : MSV S_size_of := ⟨fun ds Q Q' E E' hq hx => by
  unfold S_size_of
  split <;> repeat' (first | exact fun h => h | exact fun h => h.elim | exact hq _ | exact hq _ _ | exact hx _ | exact hx _ _ | apply And.imp | apply Or.imp | (apply Exists.imp; intro _) | (apply forall_imp; intro _))⟩
def S_way_of : SV
  | [.str a], Q, _ => ∃ l, a = S l ∧ TxO l ∧ Q (wayD (wayO l))
  | _, _, _ => False
abbrev F_way_of : FS := FV S_way_of
instance : MSV S_way_of := ⟨fun ds Q Q' E E' hq hx => by
  unfold S_way_of
  split <;> repeat' (first | exact fun h => h | exact fun h => h.elim | exact hq _ | exact hq _ _ | exact hx _ | exact hx _ _ | apply And.imp | apply Or.imp | (apply Exists.imp; intro _) | (apply forall_imp; intro _))⟩
def S_law_number : SV
  | [.str a], Q, _ => ∃ l, a = S l ∧ TxO l ∧ Q (optD (numO 0 l))
  | _, _, _ => False
abbrev F_law_number : FS := FV S_law_number
instance : MSV S_law_number := ⟨fun ds Q Q' E E' hq hx => by
  unfold S_law_number
  split <;> repeat' (first | exact fun h => h | exact fun h => h.elim | exact hq _ | exact hq _ _ | exact hx _ | exact hx _ _ | apply And.imp | apply Or.imp | (apply Exists.imp; intro _) | (apply forall_imp; intro _))⟩
def S_law_line_of : SV
  | [.str a], Q, _ => ∃ l, a = S l ∧ TxO l ∧ Q (lineD l)
  | _, _, _ => False
abbrev F_law_line_of : FS := FV S_law_line_of
instance : MSV S_law_line_of := ⟨fun ds Q Q' E E' hq hx => by
  unfold S_law_line_of
  split <;> repeat' (first | exact fun h => h | exact fun h => h.elim | exact hq _ | exact hq _ _ | exact hx _ | exact hx _ _ | apply And.imp | apply Or.imp | (apply Exists.imp; intro _) | (apply forall_imp; intro _))⟩
def S_read_house : SV
  | [d], Q, E => (∃ l, d = .str (S l) ∧ TxT l ∧ ((∃ n : Int, dueD l = .int n ∧ E ⟨"InvalidText", some ("line", .int n)⟩) ∨ (isTup (dueD l) = true ∧ Q (dueD l)))) ∨ (isTy d "str" = some false ∧ E ⟨"InvalidText", some ("line", .int 0)⟩)
  | _, _, _ => False
abbrev F_read_house : FS := FV S_read_house
instance : MSV S_read_house := ⟨fun ds Q Q' E E' hq hx => by
  unfold S_read_house
  split <;> repeat' (first | exact fun h => h | exact fun h => h.elim | exact hq _ | exact hq _ _ | exact hx _ | exact hx _ _ | apply And.imp | apply Or.imp | (apply Exists.imp; intro _) | (apply forall_imp; intro _))⟩
def S_law_read_so : SV
  | [d], Q, _ => (∃ l, d = .str (S l) ∧ TxT l ∧ Q (dueD l)) ∨ (isTy d "str" = some false ∧ Q (.int 0))
  | _, _, _ => False
abbrev F_law_read_so : FS := FV S_law_read_so
instance : MSV S_law_read_so := ⟨fun ds Q Q' E E' hq hx => by
  unfold S_law_read_so
  split <;> repeat' (first | exact fun h => h | exact fun h => h.elim | exact hq _ | exact hq _ _ | exact hx _ | exact hx _ _ | apply And.imp | apply Or.imp | (apply Exists.imp; intro _) | (apply forall_imp; intro _))⟩
abbrev F_law_due : FS := FV S_law_read_so
def rowOk (x : D) : Prop := (∃ n : Int, (1 ≤ n ∧ n ≤ 1000000000000000000000000000000) ∧ x = .int n) ∨ ∃ w : Wy, WrW w ∧ x = w.d
def S_law_is_house : SV
  | [d], Q, _ => ∃ d0 ds, d = .tup [d0, .tup ds] ∧ rowOk d0 ∧ (∀ x ∈ ds, rowOk x) ∧ ds.length ≤ 200 ∧ Q (.bl (hasHouse d))
  | _, _, _ => False
abbrev F_law_is_house : FS := FV S_law_is_house
instance : MSV S_law_is_house := ⟨fun ds Q Q' E E' hq hx => by
  unfold S_law_is_house
  split <;> repeat' (first | exact fun h => h | exact fun h => h.elim | exact hq _ | exact hq _ _ | exact hx _ | exact hx _ _ | apply And.imp | apply Or.imp | (apply Exists.imp; intro _) | (apply forall_imp; intro _))⟩
def S_law_kinds_good : SV
  | [v], Q, _ => ∃ ks ∈ KS7, v = .tup (ks.map .int) ∧ Q (.bl true)
  | _, _, _ => False
abbrev F_law_kinds_good : FS := FV S_law_kinds_good
instance : MSV S_law_kinds_good := ⟨fun ds Q Q' E E' hq hx => by
  unfold S_law_kinds_good
  split <;> repeat' (first | exact fun h => h | exact fun h => h.elim | exact hq _ | exact hq _ _ | exact hx _ | exact hx _ _ | apply And.imp | apply Or.imp | (apply Exists.imp; intro _) | (apply forall_imp; intro _))⟩
def Wy.ps (w : Wy) : List D := [.int w.word, .int w.start, .int w.share, optD w.fence, .tup (w.kinds.map .int), .bl w.keeps]
def S_law_good_part : SV
  | [.int size, .int number, .str name, v], Q, _ => ∃ (w : Wy) (i : Nat), WrW w ∧ i < 6 ∧ name = PL.getD i "" ∧ v = atD w.ps i ∧ Q (.bl (isPart size number i v))
  | _, _, _ => False
abbrev F_law_good_part : FS := FV S_law_good_part
instance : MSV S_law_good_part := ⟨fun ds Q Q' E E' hq hx => by
  unfold S_law_good_part
  split <;> repeat' (first | exact fun h => h | exact fun h => h.elim | exact hq _ | exact hq _ _ | exact hx _ | exact hx _ _ | apply And.imp | apply Or.imp | (apply Exists.imp; intro _) | (apply forall_imp; intro _))⟩
abbrev F_law_is_whole : FS := FV S_is_whole
/-- an odd value -/
def OddD (d : D) : Prop := (∃ l, d = .str (S l) ∧ TxT l) ∨ isTy d "str" = some false
def S_law_odd (k : Int) : SB
  | m, [.int n], Q, _ => Vat m ∧ n = k ∧ ∀ d, OddD d → ∀ m', Vat m' → Q d (.brw m')
  | _, _, _, _ => False
abbrev F_law_odd : FS := FB (S_law_odd 2)
instance {k : Int} : MSB (S_law_odd k) := ⟨fun b ds Q Q' E E' hq hx => by
  unfold S_law_odd
  split
  · rintro ⟨a, b, c⟩
    exact ⟨a, b, fun d h m' v => hq _ _ (c d h m' v)⟩
  · exact fun h => h⟩
def S_law_spoilt : SB
  | m, [.str a], Q, _ => Vat m ∧ ∃ l, a = S l ∧ TxO l ∧ ∀ l', (∀ c ∈ l', c < 128) → l'.length ≤ 2 * l.length + 30 → l'.count 10 ≤ l.count 10 + 1 → ∀ m', Vat m' → Q (.str (S l')) (.brw m')
  | _, _, _, _ => False
abbrev F_law_spoilt : FS := FB S_law_spoilt
instance : MSB S_law_spoilt := ⟨fun b ds Q Q' E E' hq hx => by
  unfold S_law_spoilt
  split
  · rintro ⟨a, l, e, c, h⟩
    exact ⟨a, l, e, c, fun l' h1 h2 h3 m' v => hq _ _ (h l' h1 h2 h3 m' v)⟩
  · exact fun h => h⟩
end TS
set_option Elab.async false
set_option linter.all false
set_option maxRecDepth 100000
set_option maxHeartbeats 4000000
set_option exponentiation.threshold 10000
/-! the head's facts of an own error with a field -/
namespace TS
open PySem PySem.Spec PyProof.Rows L2 ClX
/-! ### what the table of statics and the names reach -/
def asC (g : Addr → Option Obj) (n : Nat) : List Addr := He.asD g n ++ [cStatics]
def obsC (n : Nat) (fa : List He.Fa) (fn : List He.DefD) (ex : PySem.W.Frag → Bool) (g : Addr → Option Obj) : He.AlX := (He.obsT fa fn [] (He.frT g (asC g n)), ex (He.frT g (asC g n)))
theorem saysC_of {n : Nat} {fa : List He.Fa} {fn : List He.DefD} {ex : PySem.W.Frag → Bool} {w : World} {h : Heap} (e : obsC n fa fn ex h.get? = He.valX fn [] w) : He.SaysX fa fn [] [] ex w h (He.frT h.get? (asC h.get? n)) :=
  ⟨congrArg (fun z : He.AlX => z.1) e, congrArg (fun z : He.AlX => z.2) e, fun p hp => (by cases hp), fun p hp => (by cases hp), fun p hp => (by cases hp)⟩
def hookC (n : Nat) (fa : List He.Fa) (fn : List He.DefD) (ex : PySem.W.Frag → Bool) : PySem.W.Hook where
  α := He.AlX
  obs := fun s => obsC n fa fn ex s.heap.get?
  val := fun w => He.valX fn [] w
  says := fun w h => ∃ K : PySem.W.Frag, K.In h ∧ He.SaysX fa fn [] [] ex w h K
  of := fun _ _ e => ⟨_, He.frT_in, saysC_of e⟩
  keeps := fun _ _ _ ⟨K, hK, c⟩ k => ⟨K, PySem.W.Frag.In.keeps hK k, ⟨c.t, c.more, c.hd, c.out, fun p hp => k _ _ (c.empty p hp)⟩⟩
theorem obsC_eq {n : Nat} {fa : List He.Fa} {fn : List He.DefD} {ex : PySem.W.Frag → Bool} {g : Addr → Option Obj} {s : Shared} (h : ∀ a, g a = s.heap.get? a) : obsC n fa fn ex g = (hookC n fa fn ex).obs s := by
  have e : g = s.heap.get? := funext h
  rw [e] <;> rfl
/-! ### the class -/
def oexB (K : PySem.W.Frag) (C : Addr) : Bool := (match K.lookup C with
  | some ⟨.type "type", _, .cls cd, sl⟩ => (match cd.mro, sl.toList with
    | .ref C' :: bm, [_, _, _, _, some (.builtin n), _] => C' == C && n == "ValueError.__new__" && cd.hasDict && !cd.hasDel && PySem.HandSPX.refsVE bm
    | _, _ => false)
  | _ => false) && (He.eqO (PySem.W.findIn K (.ref C) "__setattr__") (some (some (.builtin "object.__setattr__"))) && (decide (PySem.W.subIn K (.ref C) (.type "BaseException") = some true) && (decide (PySem.W.typeIn K (.ref C) = some (.type "type")) && PySem.W.keepIn K (.ref C))))
theorem oexB_ok {K : PySem.W.Frag} {C : Addr} (h : oexB K C = true) : OexC K C := by
  obtain ⟨q, h⟩ := He.ba h
  obtain ⟨h2, h⟩ := He.ba h
  obtain ⟨h3, h⟩ := He.ba h
  obtain ⟨h4, h5⟩ := He.ba h
  refine ⟨?_, He.eqO_ok h2, of_decide_eq_true h3, of_decide_eq_true h4, h5⟩
  split at q
  · rename_i dd cd sl ho
    split at q
    · rename_i C' bm k0 k1 k2 k3 n k5 hm hs
      simp only [Bool.and_eq_true, beq_iff_eq, Bool.not_eq_true'] at q
      obtain ⟨⟨⟨⟨rfl, rfl⟩, hdi⟩, hdel⟩, hr⟩ := q
      obtain ⟨nm, bs, mro, ns, qn, hd, sn, sub, ab, col, del⟩ := cd
      dsimp only at hm hdel hdi
      subst hm hdel hdi
      have hsl : sl = #[k0, k1, k2, k3, some (.builtin "ValueError.__new__"), k5] := by
        obtain ⟨l⟩ := sl
        simp only at hs
        rw [hs]
      subst hsl
      exact ⟨_, _, _, _, _, _, _, _, _, _, _, _, _, _, _, ho, hr⟩
    · cases q
  · cases q
def initOf (K : PySem.W.Frag) (B : Addr) : Bool := match PySem.W.findCls K (.ref B) (.type "type") "__init__" with
  | some (.val (.builtin i)) => decide (i = "ValueError.__init__")
  | _ => false
theorem initOf_ok {K : PySem.W.Frag} {B : Addr} (h : initOf K B = true) : PySem.W.findCls K (.ref B) (.type "type") "__init__" = some (.val (.builtin "ValueError.__init__")) := by
  unfold initOf at h
  split at h
  · rename_i i e
    rw [e, of_decide_eq_true h]
  · cases h
/-- all of it -/
def excPB (K : PySem.W.Frag) (n f : Str) : Bool := oexB K (He.ga K n) && (He.eqO (PySem.W.findIn K (.ref (He.ga K n)) f) (some none) && (He.eqO (PySem.W.findIn K (.ref (He.ga K n)) "__init__") (some (some (.ref (He.ma K (He.ga K n) "__init__")))) &&
  (decide (PySem.W.typeIn K (.ref (He.ma K (He.ga K n) "__init__")) = some (.type "function")) && (xfB K (He.ga K n) && (decide (PySem.W.exmOne K (.ref (He.ga K n)) (.ref (He.ga K n)) = some true) &&
  (PySem.W.readsIn K (He.ga K "ShareError") (.type "type") && (He.eqO (PySem.W.specialIn K (.ref (He.ga K "ShareError")) "__getattribute__") (some (some (.builtin "type.__getattribute__"))) && initOf K (He.ga K "ShareError"))))))))
structure ExcPF (K : PySem.W.Frag) (n f : Str) : Prop where
  oex : OexC K (He.ga K n)
  fld : PySem.W.findIn K (.ref (He.ga K n)) f = some none
  ini : PySem.W.findIn K (.ref (He.ga K n)) "__init__" = some (some (.ref (He.ma K (He.ga K n) "__init__")))
  fn : PySem.W.typeIn K (.ref (He.ma K (He.ga K n) "__init__")) = some (.type "function")
  xf : XfC K (He.ga K n)
  exm : PySem.W.exmOne K (.ref (He.ga K n)) (.ref (He.ga K n)) = some true
  rd : CRead K (He.ga K "ShareError") (.type "type")
  io : PySem.W.findCls K (.ref (He.ga K "ShareError")) (.type "type") "__init__" = some (.val (.builtin "ValueError.__init__"))
theorem excPB_ok {K : PySem.W.Frag} {n f : Str} (h : excPB K n f = true) : ExcPF K n f := by
  obtain ⟨h1, h⟩ := He.ba h
  obtain ⟨h2, h⟩ := He.ba h
  obtain ⟨h3, h⟩ := He.ba h
  obtain ⟨h4, h⟩ := He.ba h
  obtain ⟨h5, h⟩ := He.ba h
  obtain ⟨h6, h⟩ := He.ba h
  obtain ⟨h7, h⟩ := He.ba h
  obtain ⟨h8, h9⟩ := He.ba h
  exact ⟨oexB_ok h1, He.eqO_ok h2, He.eqO_ok h3, of_decide_eq_true h4, xfB_ok h5, of_decide_eq_true h6, ⟨h7, He.eqO_ok h8⟩, initOf_ok h9⟩
theorem excR_of {Z : Zx} {n f : Str} (hm : Z.mg n = some (.ref (He.ga Z.K n))) (c : excPB Z.K n f = true) : ExcR Z n f := by
  have c := excPB_ok c
  exact ⟨_, hm, c.xf, c.fld, c.exm⟩
/-- a def that is never called -/
theorem Df.bot {P : Program} {w : World} {base : Heap} {Z : Zx} {k m : Nat} {n : Str} {f : Addr} {fd : FuncData} {ps : List Str} (hm : Z.mg n = some (.ref f)) (hk : PySem.W.keepIn Z.K (.ref f) = true) (hb : Binds Z.K fd ps []) : Df P w base Z k n m (fun _ _ _ => False) :=
  ⟨f, fd, ps, ⟨fun vs H Q E h => by
    obtain ⟨_, _, _, _, _, _, z, _⟩ := h
    exact z.elim, fun A outer s H args us vs Q E hr e0 b r h => by
    obtain ⟨_, _, _, _, _, _, z, _⟩ := h
    exact z.elim⟩, hm, hk, hb⟩
end TS
set_option Elab.async false
set_option linter.all false
set_option maxRecDepth 100000
set_option maxHeartbeats 1000000
set_option exponentiation.threshold 10000
set_option synthInstance.maxSize 100000
set_option synthInstance.maxHeartbeats 0
namespace TS
open PySem PySem.Spec PyProof.Rows L2
/-! is_whole(value, low, high) -/
def N_is_whole : List Str := ["value", "low", "high"]
def t_is_whole : DS := (sRet (dAnd (dCB fIsi (aCons (dVar 0) (aCons (dC (.ty "int")) aNil))) (dAnd (dNot (dCB fIsi (aCons (dVar 0) (aCons (dC (.ty "bool")) aNil))))
    (dChain oLe oLe (dVar 1) (dVar 0) (dVar 2)))))
/-! is_rising(value, most) -/
def N_is_rising : List Str := ["value", "most", "at", "part"]
def t_is_rising : DS := (sSeq (sIf (tOrD (tNotD (dTst (dCB fIsi (aCons (dVar 0) (aCons (dC (.ty "tuple")) aNil))))) (dTst (dOp oNe (dOfN (nLc (iSq (dVar 0)) (gNm 3) (tNotD
    (dTst (dCall 3 F_is_whole (aCons (dVar 3) (aCons (dC (.int 0)) (aCons (dVar 1) aNil)))))) (dVar 3) [3])) (dOfN (nLst aNil))))) (sRet (dC (.bl false))) sNext) (sRet
    (dOp oEq (dOfN (nLc (iR1 (aCons (dOp oSub (dCB fLen (aCons (dVar 0) aNil)) (dC (.int 1))) aNil)) (gNm 2) (dTst (dOp oGe (dOp oIx (dVar 0) (dVar 2)) (dOp oIx (dVar 0)
    (dOp oAdd (dVar 2) (dC (.int 1)))))) (dVar 2) [2])) (dOfN (nLst aNil)))))
/-! is_part(size, number, place, value) -/
def N_is_part : List Str := ["size", "number", "place", "value"]
def t_is_part : DS := (sSeq (sIf (dTst (dOp oEq (dVar 2) (dC (.int 0)))) (sRet (dCall 3 F_is_whole (aCons (dVar 3) (aCons (dC (.int 0)) (aCons (dC (.int 1)) aNil)))))
    sNext) (sSeq (sIf (dTst (dOp oEq (dVar 2) (dC (.int 1)))) (sRet (dCall 3 F_is_whole (aCons (dVar 3) (aCons (dC (.int 0)) (aCons (dOp oSub (dVar 0) (dC (.int 1)))
    aNil))))) sNext) (sSeq (sIf (dTst (dOp oEq (dVar 2) (dC (.int 2)))) (sRet (dCall 3 F_is_whole (aCons (dVar 3) (aCons (dC (.int 0)) (aCons (dVar 0) aNil))))) sNext)
    (sSeq (sIf (dTst (dOp oEq (dVar 2) (dC (.int 3)))) (sRet (dOr (dOp oIsN (dVar 3) (dC .non)) (dCall 3 F_is_whole (aCons (dVar 3) (aCons (dC (.int 0)) (aCons (dOp oSub
    (dVar 1) (dC (.int 1))) aNil)))))) sNext) (sSeq (sIf (dTst (dOp oEq (dVar 2) (dC (.int 4)))) (sRet (dAnd (dCall 2 F_is_rising (aCons (dVar 3) (aCons (dC (.int 2))
    aNil))) (dOp oNe (dVar 3) (dTupL aNil)))) sNext) (sRet (dCB fIsi (aCons (dVar 3) (aCons (dC (.ty "bool")) aNil)))))))))
/-! is_way(size, number, value) -/
def N_is_way : List Str := ["size", "number", "value", "place"]
def t_is_way : DS := (sSeq (sIf (tOrD (tNotD (dTst (dCB fIsi (aCons (dVar 2) (aCons (dC (.ty "tuple")) aNil))))) (dTst (dOp oNe (dCB fLen (aCons (dVar 2) aNil)) (dC (.int
    6))))) (sRet (dC (.bl false))) sNext) (sRet (dOp oEq (dOfN (nLc (iR1 (aCons (dC (.int 6)) aNil)) (gNm 3) (tNotD (dTst (dCall 4 F_is_part (aCons (dVar 0) (aCons (dVar
    1) (aCons (dVar 3) (aCons (dOp oIx (dVar 2) (dVar 3)) aNil))))))) (dVar 3) [3])) (dOfN (nLst aNil)))))
/-! has_house(value) -/
def N_has_house : List Str := ["value", "number"]
def t_has_house : DS := (sSeq (sIf (tOrD (tNotD (dTst (dCB fIsi (aCons (dVar 0) (aCons (dC (.ty "tuple")) aNil))))) (tOrD (dTst (dOp oNe (dCB fLen (aCons (dVar 0) aNil))
    (dC (.int 2)))) (tNotD (dTst (dCall 3 F_is_whole (aCons (dOp oIx (dVar 0) (dC (.int 0))) (aCons (dC (.int 1)) (aCons (dC (.int (10 ^ 30))) aNil)))))))) (sRet (dC (.bl
    false))) sNext) (sSeq (sIf (tOrD (tNotD (dTst (dCB fIsi (aCons (dOp oIx (dVar 0) (dC (.int 1))) (aCons (dC (.ty "tuple")) aNil))))) (tNotD (dTst (dChain oLe oLe (dC
    (.int 1)) (dCB fLen (aCons (dOp oIx (dVar 0) (dC (.int 1))) aNil)) (dC (.int 3)))))) (sRet (dC (.bl false))) sNext) (sRet (dOp oEq (dOfN (nLc (iR1 (aCons (dCB fLen
    (aCons (dOp oIx (dVar 0) (dC (.int 1))) aNil)) aNil)) (gNm 1) (tNotD (dTst (dCall 3 F_is_way (aCons (dOp oIx (dVar 0) (dC (.int 0))) (aCons (dVar 1) (aCons (dOp oIx
    (dOp oIx (dVar 0) (dC (.int 1))) (dVar 1)) aNil)))))) (dVar 1) [1])) (dOfN (nLst aNil))))))
/-! number_of(word, low) -/
def N_number_of : List Str := ["word", "low", "found", "sign"]
def t_number_of : DS := (sSeq (sIf (tOrD (dTst (dOp oEq (dVar 0) (dC (.str "")))) (tOrD (dTst (dOp oGt (dCB fLen (aCons (dVar 0) aNil)) (dC (.int 31)))) (dTst (dOp oNe
    (dOfN (nLc (iS (dVar 0)) (gNm 3) (dTst (dOp oNotIn (dVar 3) (dC (.str "0123456789")))) (dVar 3) [3])) (dOfN (nLst aNil)))))) (sRet (dC .non)) sNext) (sSeq (sAsg (dCB
    fIntT (aCons (dVar 0) aNil)) (gNm 2)) (sRet (dIf (tAndD (dTst (dOp oEq (dCB fStrI (aCons (dVar 2) aNil)) (dVar 0))) (dTst (dChain oLe oLe (dVar 1) (dVar 2) (dC (.int
    (10 ^ 30)))))) (dVar 2) (dC .non)))))
/-! size_of(line) -/
def N_size_of : List Str := ["line", "words"]
def t_size_of : DS := (sSeq (sAsg (dOfN (nSplit (dVar 0) (dC (.str "\x20")))) (gNm 1)) (sRet (dIf (tAndD (dTst (dOp oEq (dCB fLen (aCons (dVar 1) aNil)) (dC (.int 2))))
    (dTst (dOp oEq (dOp oIx (dVar 1) (dC (.int 0))) (dC (.str "size"))))) (dCall 2 F_number_of (aCons (dOp oIx (dVar 1) (dC (.int 1))) (aCons (dC (.int 1)) aNil))) (dC
    .non))))
/-! way_of(line) -/
def N_way_of : List Str := ["line", "words", "fence", "kinds", "numbers", "way", "word", "sign"]
def t_way_of : DS := (sSeq (sAsg (dOfN (nSplit (dVar 0) (dC (.str "\x20")))) (gNm 1)) (sSeq (sIf (tOrD (dTst (dOp oNe (dCB fLen (aCons (dVar 1) aNil)) (dC (.int 7))))
    (tOrD (dTst (dOp oNe (dOp oIx (dVar 1) (dC (.int 0))) (dC (.str "way")))) (tOrD (dTst (dOp oNotIn (dOp oIx (dVar 1) (dC (.int 5))) (dC (.tup [.str "0", .str "1", .str
    "2", .str "01", .str "02", .str "12", .str "012"])))) (dTst (dOp oNotIn (dOp oIx (dVar 1) (dC (.int 6))) (dTupL (aCons (dC (.str "kept")) (aCons (dC (.str "free"))
    aNil)))))))) (sRet (dC .non)) sNext) (sSeq (sIf (dTst (dOp oNotIn (dOp oIx (dVar 1) (dC (.int 4))) (dTupL (aCons (dC (.str "-")) (aCons (dC (.str "0")) (aCons (dC
    (.str "1")) aNil)))))) (sRet (dC .non)) sNext) (sSeq (sAsg (dIf (dTst (dOp oEq (dOp oIx (dVar 1) (dC (.int 4))) (dC (.str "-")))) (dC .non) (dCB fIntT (aCons (dOp oIx
    (dVar 1) (dC (.int 4))) aNil))) (gNm 2)) (sSeq (sAsg (dCB fTuple (aCons (dOfN (nLc (iS (dOp oIx (dVar 1) (dC (.int 5)))) (gNm 7) tYesD (dCB fIntT (aCons (dVar 7)
    aNil)) [7])) aNil)) (gNm 3)) (sSeq (sAsg (dOfN (nLc (iSq (dSl (dVar 1) (oSome (dC (.int 1))) (oSome (dC (.int 4))))) (gNm 6) tYesD (dCall 2 F_number_of (aCons (dVar 6)
    (aCons (dC (.int 0)) aNil))) [6])) (gNm 4)) (sSeq (sAsg (dTupL (aCons (dOp oIx (dVar 4) (dC (.int 0))) (aCons (dOp oIx (dVar 4) (dC (.int 1))) (aCons (dOp oIx (dVar 4)
    (dC (.int 2))) (aCons (dVar 2) (aCons (dVar 3) (aCons (dOp oEq (dOp oIx (dVar 1) (dC (.int 6))) (dC (.str "kept"))) aNil))))))) (gNm 5)) (sRet (dIf (dTst (dCall 3
    F_is_way (aCons (dC (.int (10 ^ 30))) (aCons (dC (.int 2)) (aCons (dVar 5) aNil))))) (dVar 5) (dC .non))))))))))
/-! read_house(value) -/
def N_read_house : List Str := ["value", "lines", "house", "number", "line"]
def t_read_house : DS := (sSeq (sIf (tNotD (dTst (dCB fIsi (aCons (dVar 0) (aCons (dC (.ty "str")) aNil))))) (sRaiseP "InvalidText" "line" (dC (.int 0))) sNext) (sSeq
    (sAsg (dOfN (nSplit (dVar 0) (dC (.str "\n")))) (gNm 1)) (sSeq (sFor (iEn (aCons (dVar 1) aNil)) (gTp 2 (gC (gNm 3) (gC (gNm 4) gN))) (sIf (tAndD (dTst (dOp oIsN
    (dCall 1 F_size_of (aCons (dVar 4) aNil)) (dC .non))) (dTst (dOp oIsN (dCall 1 F_way_of (aCons (dVar 4) aNil)) (dC .non)))) (sRaiseP "InvalidText" "line" (dOp oAdd
    (dVar 3) (dC (.int 1)))) sNext)) (sSeq (sAsg (dTupL (aCons (dCall 1 F_size_of (aCons (dOp oIx (dVar 1) (dC (.int 0))) aNil)) (aCons (dCB fTuple (aCons (dOfN (nLc (iSq
    (dSl (dVar 1) (oSome (dC (.int 1))) oNo)) (gNm 4) tYesD (dCall 1 F_way_of (aCons (dVar 4) aNil)) [4])) aNil)) aNil))) (gNm 2)) (sSeq (sIf (tNotD (dTst (dCall 1
    F_has_house (aCons (dVar 2) aNil)))) (sRaiseP "InvalidText" "line" (dOp oAdd (dCB fLen (aCons (dVar 1) aNil)) (dC (.int 1)))) sNext) (sRet (dVar 2)))))))
/-! _law_vat(script, k) -/
def N_law_vat : List Str := ["script", "k", "cell"]
def t_law_vat : DS := (sSeq (sAsg (dOp oAdd (dOp oMulI (dC (.int 7919)) (dVar 1)) (dC (.int 43))) (gNm 2)) (sSeq (sIf (dTst (dOp oLt (dVar 1) (dCB fLen (aCons (dVar 0)
    aNil)))) (sAsg (dCB fAbs (aCons (dCB fInt (aCons (dOp oIx (dVar 0) (dVar 1)) aNil)) aNil)) (gNm 2)) sNext) (sRet (dOfN (nLst (aCons (dIf (dTst (dOp oGe (dVar 2) (dOp
    oPow (dC (.int 10)) (dC (.int 18))))) (dVar 2) (dC (.int 0))) (aCons (dOp oAdd (dOp oMod (dCB fInt (aCons (dOp oAdd (dOp oAdd (dOp oMulI (dVar 2) (dC (.int 131071)))
    (dOp oMulI (dC (.int 8191)) (dVar 1))) (dC (.int 5))) aNil)) (dC (.int 2147483629))) (dC (.int 1))) aNil)))))))
/-! _law_under(vat, many) -/
def N_law_under : List Str := ["vat", "many", "wide", "found"]
def t_law_under : DS := (sSeq (sIf (dTst (dOp oGt (dIxH 0 (dC (.int 0))) (dC (.int 0)))) (sSeq (sAsg (dOp oMod (dCB fInt (aCons (dIxH 0 (dC (.int 0))) aNil)) (dVar 1))
    (gNm 3)) (sSeq (sSto 0 (dOp oDiv (dIxH 0 (dC (.int 0))) (dVar 1)) (dC (.int 0))) (sRet (dVar 3)))) sNext) (sSeq (sSto 0 (dOp oMod (dCB fInt (aCons (dOp oAdd (dOp oMulI
    (dIxH 0 (dC (.int 1))) (dC (.int 39373))) (dC (.int 101))) aNil)) (dC (.int 2147483629))) (dC (.int 1))) (sSeq (sAsg (dOp oMod (dCB fInt (aCons (dOp oMulI (dIxH 0 (dC
    (.int 1))) (dOp oAdd (dOp oDiv (dIxH 0 (dC (.int 1))) (dC (.int 5))) (dC (.int 9)))) aNil)) (dC (.int 2147483587))) (gNm 2)) (sRet (dOp oMod (dCB fInt (aCons (dOp oDiv
    (dVar 2) (dC (.int 32))) aNil)) (dVar 1))))))
/-! _law_some(vat, things) -/
def N_law_some : List Str := ["vat", "things"]
def t_law_some : DS := (sRet (dOp oIx (dVar 1) (dCallR 2 F_law_under 0 (aCons (dCB fLen (aCons (dVar 1) aNil)) aNil))))
/-! _law_is_whole(value, low, high) -/
def N_law_is_whole : List Str := ["value", "low", "high"]
def t_law_is_whole : DS := (sRet (dAnd (dCB fIsi (aCons (dVar 0) (aCons (dC (.ty "int")) aNil))) (dAnd (dNot (dCB fIsi (aCons (dVar 0) (aCons (dC (.ty "bool")) aNil))))
    (dChain oLe oLe (dVar 1) (dVar 0) (dVar 2)))))
/-! _law_kinds_good(value) -/
def N_law_kinds_good : List Str := ["value", "kind"]
def t_law_kinds_good : DS := (sSeq (sIf (tOrD (tNotD (dTst (dCB fIsi (aCons (dVar 0) (aCons (dC (.ty "tuple")) aNil))))) (tNotD (dTst (dChain oLe oLe (dC (.int 1)) (dCB
    fLen (aCons (dVar 0) aNil)) (dC (.int 3)))))) (sRet (dC (.bl false))) sNext) (sSeq (sIf (dTst (dOp oNe (dOfN (nLc (iSq (dVar 0)) (gNm 1) (tNotD (dTst (dCall 3
    F_law_is_whole (aCons (dVar 1) (aCons (dC (.int 0)) (aCons (dC (.int 2)) aNil)))))) (dVar 1) [1])) (dOfN (nLst aNil)))) (sRet (dC (.bl false))) sNext) (sRet (dOp oEq
    (dOfN (nList (aCons (dVar 0) aNil))) (dOfN (nSS (dVar 0)))))))
/-! _law_good_part(size, number, name, value) -/
def N_law_good_part : List Str := ["size", "number", "name", "value"]
def t_law_good_part : DS := (sSeq (sIf (dTst (dOp oEq (dVar 2) (dC (.str "word")))) (sRet (dCall 3 F_law_is_whole (aCons (dVar 3) (aCons (dC (.int 0)) (aCons (dC (.int 1))
    aNil))))) sNext) (sSeq (sIf (dTst (dOp oEq (dVar 2) (dC (.str "start")))) (sRet (dCall 3 F_law_is_whole (aCons (dVar 3) (aCons (dC (.int 0)) (aCons (dOp oSub (dVar 0)
    (dC (.int 1))) aNil))))) sNext) (sSeq (sIf (dTst (dOp oEq (dVar 2) (dC (.str "share")))) (sRet (dCall 3 F_law_is_whole (aCons (dVar 3) (aCons (dC (.int 0)) (aCons
    (dVar 0) aNil))))) sNext) (sSeq (sIf (dTst (dOp oEq (dVar 2) (dC (.str "fence")))) (sRet (dOr (dOp oIsN (dVar 3) (dC .non)) (dCall 3 F_law_is_whole (aCons (dVar 3)
    (aCons (dC (.int 0)) (aCons (dOp oSub (dVar 1) (dC (.int 1))) aNil)))))) sNext) (sRet (dIf (dTst (dOp oEq (dVar 2) (dC (.str "kinds")))) (dCall 1 F_law_kinds_good
    (aCons (dVar 3) aNil)) (dCB fIsi (aCons (dVar 3) (aCons (dC (.ty "bool")) aNil)))))))))
/-! _law_part_names() -/
def N_law_part_names : List Str := []
def t_law_part_names : DS := (sRet (dOfN (nLst (aCons (dC (.str "word")) (aCons (dC (.str "start")) (aCons (dC (.str "share")) (aCons (dC (.str "fence")) (aCons (dC (.str
    "kinds")) (aCons (dC (.str "keeps")) aNil)))))))))
/-! _law_is_house(value) -/
def N_law_is_house : List Str := ["value", "number", "way", "name", "part"]
def t_law_is_house : DS := (sSeq (sIf (tOrD (tNotD (dTst (dCB fIsi (aCons (dVar 0) (aCons (dC (.ty "tuple")) aNil))))) (tOrD (dTst (dOp oNe (dCB fLen (aCons (dVar 0)
    aNil)) (dC (.int 2)))) (tNotD (dTst (dCall 3 F_law_is_whole (aCons (dOp oIx (dVar 0) (dC (.int 0))) (aCons (dC (.int 1)) (aCons (dOp oPow (dC (.int 10)) (dC (.int
    30))) aNil)))))))) (sRet (dC (.bl false))) sNext) (sSeq (sIf (tOrD (tNotD (dTst (dCB fIsi (aCons (dOp oIx (dVar 0) (dC (.int 1))) (aCons (dC (.ty "tuple")) aNil)))))
    (tNotD (dTst (dChain oLe oLe (dC (.int 1)) (dCB fLen (aCons (dOp oIx (dVar 0) (dC (.int 1))) aNil)) (dC (.int 3)))))) (sRet (dC (.bl false))) sNext) (sSeq (sFor (iEn
    (aCons (dOp oIx (dVar 0) (dC (.int 1))) aNil)) (gTp 2 (gC (gNm 1) (gC (gNm 2) gN))) (sSeq (sIf (tOrD (tNotD (dTst (dCB fIsi (aCons (dVar 2) (aCons (dC (.ty "tuple"))
    aNil))))) (dTst (dOp oNe (dCB fLen (aCons (dVar 2) aNil)) (dC (.int 6))))) (sRet (dC (.bl false))) sNext) (sFor (iZp (aCons (dCall0 F_law_part_names) (aCons (dVar 2)
    aNil))) (gTp 2 (gC (gNm 3) (gC (gNm 4) gN))) (sIf (tNotD (dTst (dCall 4 F_law_good_part (aCons (dOp oIx (dVar 0) (dC (.int 0))) (aCons (dVar 1) (aCons (dVar 3) (aCons
    (dVar 4) aNil))))))) (sRet (dC (.bl false))) sNext)))) (sRet (dC (.bl true))))))
/-! _law_kinds(vat) -/
def N_law_kinds : List Str := ["vat"]
def t_law_kinds : DS := (sRet (dCallR 2 F_law_some 0 (aCons (dOfN (nLst (aCons (dTupL (aCons (dC (.int 0)) (aCons (dC (.int 1)) (aCons (dC (.int 2)) aNil)))) (aCons (dTupL
    (aCons (dC (.int 0)) (aCons (dC (.int 1)) (aCons (dC (.int 2)) aNil)))) (aCons (dTupL (aCons (dC (.int 0)) aNil)) (aCons (dTupL (aCons (dC (.int 1)) aNil)) (aCons
    (dTupL (aCons (dC (.int 0)) (aCons (dC (.int 2)) aNil))) (aCons (dTupL (aCons (dC (.int 1)) (aCons (dC (.int 2)) aNil))) aNil)))))))) aNil)))
/-! _law_house(vat, most) -/
def N_law_house : List Str := ["vat", "most", "number", "size", "ways", "fence", "way"]
def t_law_house : DS := (sSeq (sPar 3 4 (aCons (dOp oAdd (dC (.int 1)) (dCallR 2 F_law_under 0 (aCons (dVar 1) aNil))) (aCons (dTupL aNil) aNil))) (sSeq (sFor (iR1 (aCons
    (dOp oAdd (dC (.int 1)) (dCallR 2 F_law_under 0 (aCons (dC (.int 3)) aNil))) aNil)) (gNm 2) (sSeq (sAsg (dIf (tAndD (dTst (dOp oGt (dVar 2) (dC (.int 0)))) (dTst (dOp
    oEq (dCallR 2 F_law_under 0 (aCons (dC (.int 3)) aNil)) (dC (.int 0))))) (dCallR 2 F_law_under 0 (aCons (dVar 2) aNil)) (dC .non)) (gNm 5)) (sSeq (sAsg (dTupL (aCons
    (dCallR 2 F_law_under 0 (aCons (dC (.int 2)) aNil)) (aCons (dCallR 2 F_law_under 0 (aCons (dVar 3) aNil)) (aCons (dCallR 2 F_law_under 0 (aCons (dOp oAdd (dVar 3) (dC
    (.int 1))) aNil)) (aCons (dVar 5) aNil))))) (gNm 6)) (sAsg (dOp oAdd (dVar 4) (dTupL (aCons (dOp oAdd (dVar 6) (dTupL (aCons (dCallR 1 F_law_kinds 0 aNil) (aCons (dOp
    oEq (dCallR 2 F_law_under 0 (aCons (dC (.int 3)) aNil)) (dC (.int 0))) aNil)))) aNil))) (gNm 4))))) (sRet (dTupL (aCons (dVar 3) (aCons (dVar 4) aNil))))))
/-! _law_odd(vat, depth) -/
def N_law_odd : List Str := ["vat", "depth", "some", "row", "part"]
def t_law_odd (F_law_odd : FS) : DS := (sSeq (sAsg (dOfN (nLst (aCons (dC .non) (aCons (dC (.bl true)) (aCons (dC (.bl false)) (aCons (dC (.int 0)) (aCons (dC (.int 1))
    (aCons (dC (.int 2)) (aCons (dC (.int 7)) (aCons (dUn oNeg (dC (.int 1))) (aCons (dOp oPow (dC (.int 10)) (dC (.int 31))) (aCons (dC (.str "")) (aCons (dC (.str
    "share")) (aCons (dC (.str "back")) (aCons (dTupL aNil) (aCons (dOfN (nLst aNil)) (aCons (dTupL (aCons (dC (.int 0)) aNil)) (aCons (dTupL (aCons (dC (.int 0)) (aCons
    (dC (.int 1)) aNil))) (aCons (dTupL (aCons (dC (.int 0)) (aCons (dC (.int 0)) (aCons (dC (.int 0)) aNil)))) aNil))))))))))))))))))) (gNm 2)) (sSeq (sAsg (dOp oAdd
    (dVar 2) (dOfN (nLst (aCons (dTupL (aCons (dC (.str "back")) (aCons (dC (.int 0)) aNil))) (aCons (dTupL (aCons (dC (.str "share")) (aCons (dC (.int 0)) (aCons (dC
    (.int 1)) aNil)))) (aCons (dTupL (aCons (dC (.int 1)) (aCons (dTupL aNil) aNil))) (aCons (dTupL (aCons (dC (.int 2)) (aCons (dTupL (aCons (dTupL (aCons (dC (.int 0))
    (aCons (dC (.int 0)) (aCons (dC (.int 1)) (aCons (dC .non) (aCons (dTupL (aCons (dC (.int 0)) aNil)) (aCons (dC (.bl true)) aNil))))))) aNil)) aNil))) aNil))))))) (gNm
    2)) (sSeq (sIf (tOrD (dTst (dOp oEq (dVar 1) (dC (.int 0)))) (dTst (dOp oLt (dCallR 2 F_law_under 0 (aCons (dC (.int 9)) aNil)) (dC (.int 6))))) (sRet (dCallR 2
    F_law_some 0 (aCons (dVar 2) aNil))) sNext) (sSeq (sAsg (dOfN (nLc (iR1 (aCons (dCallR 2 F_law_under 0 (aCons (dC (.int 4)) aNil)) aNil)) (gNm 4) tYesD (dCallR 2
    F_law_odd 0 (aCons (dOp oSub (dVar 1) (dC (.int 1))) aNil)) [4])) (gNm 3)) (sRet (dIf (dTst (dOp oEq (dCallR 2 F_law_under 0 (aCons (dC (.int 3)) aNil)) (dC (.int
    0)))) (dVar 3) (dCB fTuple (aCons (dVar 3) aNil))))))))
/-! _law_lines(house) -/
def N_law_lines : List Str := ["house", "found", "word", "start", "share", "fence", "kinds", "keeps", "line", "kind"]
def t_law_lines : DS := (sSeq (sOwn 1 (nLst (aCons (dOp oAdd (dC (.str "size\x20")) (dCB fStrI (aCons (dOp oIx (dVar 0) (dC (.int 0))) aNil))) aNil))) (sSeq (sFor (iSq
    (dOp oIx (dVar 0) (dC (.int 1)))) (gTp 6 (gC (gNm 2) (gC (gNm 3) (gC (gNm 4) (gC (gNm 5) (gC (gNm 6) (gC (gNm 7) gN))))))) (sSeq (sAsg (dOp oAdd (dOp oAdd (dOp oAdd
    (dOp oAdd (dOp oAdd (dC (.str "way\x20")) (dCB fStrI (aCons (dVar 2) aNil))) (dC (.str "\x20"))) (dCB fStrI (aCons (dVar 3) aNil))) (dC (.str "\x20"))) (dCB fStrI
    (aCons (dVar 4) aNil))) (gNm 8)) (sSeq (sAsg (dOp oAdd (dOp oAdd (dVar 8) (dIf (dTst (dOp oIsN (dVar 5) (dC .non))) (dC (.str "\x20-")) (dOp oAdd (dC (.str "\x20"))
    (dCB fStrI (aCons (dVar 5) aNil))))) (dC (.str "\x20"))) (gNm 8)) (sSeq (sFor (iSq (dVar 6)) (gNm 9) (sAsg (dOp oAdd (dVar 8) (dCB fStrI (aCons (dVar 9) aNil))) (gNm
    8))) (sApp 1 (aCons (dOp oAdd (dVar 8) (dIf (dTst (dVar 7)) (dC (.str "\x20kept")) (dC (.str "\x20free")))) aNil)))))) (sRet (dVar 1))))
/-! _law_read_so(value) -/
def N_law_read_so : List Str := ["value", "e"]
def t_law_read_so : DS := (sTryF "InvalidText" "line" 1 (sRet (dCall 1 F_read_house (aCons (dVar 0) aNil))))
/-! _law_spoilt(vat, text) -/
def N_law_spoilt : List Str := ["vat", "text", "lines", "here", "some", "spot", "way", "marks"]
def t_law_spoilt : DS := (sSeq (sPar 5 6 (aCons (dCallR 2 F_law_under 0 (aCons (dOp oAdd (dCB fLen (aCons (dVar 1) aNil)) (dC (.int 1))) aNil)) (aCons (dCallR 2
    F_law_under 0 (aCons (dC (.int 6)) aNil)) aNil))) (sSeq (sIf (dTst (dOp oLt (dVar 6) (dC (.int 2)))) (sSeq (sAsg (dOfN (nLst (aCons (dC (.str "")) (aCons (dC (.str
    "\x20")) (aCons (dC (.str "0")) (aCons (dC (.str "1")) (aCons (dC (.str "-")) (aCons (dC (.str "2")) (aCons (dC (.str "\n")) (aCons (dC (.str
    "\nway\x200\x200\x201\x20-\x200\x20free")) (aCons (dC (.str "9")) (aCons (dC (.str "size\x203")) (aCons (dC (.str "kept")) (aCons (dC (.str "way\x20"))
    aNil)))))))))))))) (gNm 7)) (sRet (dOp oAdd (dOp oAdd (dSlS (dVar 1) oNo (oSome (dVar 5))) (dCallR 2 F_law_some 0 (aCons (dVar 7) aNil))) (dSlS (dVar 1) (oSome (dOp
    oAdd (dVar 5) (dVar 6))) oNo)))) sNext) (sSeq (sAsg (dOfN (nSplit (dVar 1) (dC (.str "\n")))) (gNm 2)) (sSeq (sAsg (dCallR 2 F_law_under 0 (aCons (dCB fLen (aCons
    (dVar 2) aNil)) aNil)) (gNm 3)) (sSeq (sIf (dTst (dOp oEq (dVar 6) (dC (.int 2)))) (sRet (dJoin (dC (.str "\n")) (dOp oAdd (dSl (dVar 2) oNo (oSome (dVar 3))) (dSl
    (dVar 2) (oSome (dOp oAdd (dVar 3) (dC (.int 1)))) oNo)))) sNext) (sSeq (sIf (dTst (dOp oEq (dVar 6) (dC (.int 3)))) (sRet (dJoin (dC (.str "\n")) (dOp oAdd (dSl (dVar
    2) oNo (oSome (dOp oAdd (dVar 3) (dC (.int 1))))) (dSl (dVar 2) (oSome (dVar 3)) oNo)))) sNext) (sSeq (sIf (dTst (dOp oEq (dVar 6) (dC (.int 4)))) (sRet (dJoin (dC
    (.str "\n")) (dOp oAdd (dSl (dVar 2) (oSome (dVar 3)) oNo) (dSl (dVar 2) oNo (oSome (dVar 3)))))) sNext) (sSeq (sAsg (dOfN (nLst (aCons (dC (.str "size\x200")) (aCons
    (dC (.str "size\x2001")) (aCons (dC (.str "way\x202\x200\x201\x20-\x200\x20free")) (aCons (dC (.str "way\x200\x200\x201\x202\x200\x20free")) (aCons (dC (.str
    "way\x200\x200\x201\x20-\x2010\x20free")) (aCons (dC (.str "way\x200\x200\x201\x20-\x200")) aNil)))))))) (gNm 4)) (sRet (dJoin (dC (.str "\n")) (dOp oAdd (dOp oAdd
    (dSl (dVar 2) oNo (oSome (dVar 3))) (dOfN (nLst (aCons (dCallR 2 F_law_some 0 (aCons (dVar 4) aNil)) aNil)))) (dSl (dVar 2) (oSome (dOp oAdd (dVar 3) (dC (.int 1))))
    oNo))))))))))))
/-! _law_number(word) -/
def N_law_number : List Str := ["word", "sign"]
def t_law_number : DS := (sSeq (sIf (tOrD (dTst (dOp oEq (dVar 0) (dC (.str "")))) (dTst (dOp oNe (dOfN (nLc (iS (dVar 0)) (gNm 1) (dTst (dOp oNotIn (dVar 1) (dC (.str
    "0123456789")))) (dVar 1) [1])) (dOfN (nLst aNil))))) (sRet (dC .non)) sNext) (sSeq (sIf (tAndD (dTst (dOp oNe (dVar 0) (dC (.str "0")))) (dTst (dOp oEq (dOp oIx (dVar
    0) (dC (.int 0))) (dC (.str "0"))))) (sRet (dC .non)) sNext) (sRet (dIf (tAndD (dTst (dOp oLt (dCB fLen (aCons (dVar 0) aNil)) (dC (.int 40)))) (dTst (dOp oLe (dCB
    fIntT (aCons (dVar 0) aNil)) (dOp oPow (dC (.int 10)) (dC (.int 30)))))) (dCB fIntT (aCons (dVar 0) aNil)) (dC .non)))))
/-! _law_line_of(line) -/
def N_law_line_of : List Str := ["line", "words_so", "numbers", "fence", "kinds", "found", "word", "sign"]
def t_law_line_of : DS := (sSeq (sAsg (dOfN (nSplit (dVar 0) (dC (.str "\x20")))) (gNm 1)) (sSeq (sIf (tAndD (dTst (dOp oEq (dCB fLen (aCons (dVar 1) aNil)) (dC (.int
    2)))) (dTst (dOp oEq (dOp oIx (dVar 1) (dC (.int 0))) (dC (.str "size"))))) (sSeq (sAsg (dCall 1 F_law_number (aCons (dOp oIx (dVar 1) (dC (.int 1))) aNil)) (gNm 5))
    (sRet (dIf (dTst (dOp oNe (dVar 5) (dC (.int 0)))) (dVar 5) (dC .non)))) sNext) (sSeq (sIf (tOrD (dTst (dOp oNe (dCB fLen (aCons (dVar 1) aNil)) (dC (.int 7)))) (tOrD
    (dTst (dOp oNe (dOp oIx (dVar 1) (dC (.int 0))) (dC (.str "way")))) (dTst (dOp oNotIn (dOp oIx (dVar 1) (dC (.int 4))) (dOfN (nLst (aCons (dC (.str "-")) (aCons (dC
    (.str "0")) (aCons (dC (.str "1")) aNil))))))))) (sRet (dC .non)) sNext) (sSeq (sIf (tOrD (dTst (dOp oNotIn (dOp oIx (dVar 1) (dC (.int 5))) (dOfN (nLst (aCons (dC
    (.str "0")) (aCons (dC (.str "1")) (aCons (dC (.str "2")) (aCons (dC (.str "01")) (aCons (dC (.str "02")) (aCons (dC (.str "12")) (aCons (dC (.str "012"))
    aNil))))))))))) (dTst (dOp oNotIn (dOp oIx (dVar 1) (dC (.int 6))) (dOfN (nLst (aCons (dC (.str "kept")) (aCons (dC (.str "free")) aNil))))))) (sRet (dC .non)) sNext)
    (sSeq (sAsg (dOfN (nLc (iSq (dSl (dVar 1) (oSome (dC (.int 1))) (oSome (dC (.int 4))))) (gNm 6) tYesD (dCall 1 F_law_number (aCons (dVar 6) aNil)) [6])) (gNm 2)) (sSeq
    (sIf (tOrD (dTst (dOp oIn (dC .non) (dVar 2))) (tOrD (dTst (dOp oGt (dOp oIx (dVar 2) (dC (.int 0))) (dC (.int 1)))) (dTst (dOp oEq (dOp oIx (dVar 2) (dC (.int 1)))
    (dOp oPow (dC (.int 10)) (dC (.int 30))))))) (sRet (dC .non)) sNext) (sSeq (sAsg (dIf (dTst (dOp oEq (dOp oIx (dVar 1) (dC (.int 4))) (dC (.str "-")))) (dC .non) (dCB
    fIntT (aCons (dOp oIx (dVar 1) (dC (.int 4))) aNil))) (gNm 3)) (sSeq (sAsg (dCB fTuple (aCons (dOfN (nLc (iS (dOp oIx (dVar 1) (dC (.int 5)))) (gNm 7) tYesD (dCB fIntT
    (aCons (dVar 7) aNil)) [7])) aNil)) (gNm 4)) (sRet (dTupL (aCons (dOp oIx (dVar 2) (dC (.int 0))) (aCons (dOp oIx (dVar 2) (dC (.int 1))) (aCons (dOp oIx (dVar 2) (dC
    (.int 2))) (aCons (dVar 3) (aCons (dVar 4) (aCons (dOp oEq (dOp oIx (dVar 1) (dC (.int 6))) (dC (.str "kept"))) aNil))))))))))))))))
/-! _law_due(value) -/
def N_law_due : List Str := ["value", "rows", "house", "line"]
def t_law_due : DS := (sSeq (sIf (tNotD (dTst (dCB fIsi (aCons (dVar 0) (aCons (dC (.ty "str")) aNil))))) (sRet (dC (.int 0))) sNext) (sSeq (sAsg (dOfN (nLc (iSq (dOfN
    (nSplit (dVar 0) (dC (.str "\n"))))) (gNm 3) tYesD (dCall 1 F_law_line_of (aCons (dVar 3) aNil)) [3])) (gNm 1)) (sSeq (sIf (dTst (dOp oInL (dC .non) (dVar 1))) (sRet
    (dOp oAdd (dIxD (dVar 1) (aCons (dC .non) aNil)) (dC (.int 1)))) sNext) (sSeq (sAsg (dTupL (aCons (dOp oIx (dVar 1) (dC (.int 0))) (aCons (dCB fTuple (aCons (dSl (dVar
    1) (oSome (dC (.int 1))) oNo) aNil)) aNil))) (gNm 2)) (sRet (dIf (dTst (dCall 1 F_law_is_house (aCons (dVar 2) aNil))) (dVar 2) (dOp oAdd (dCB fLen (aCons (dVar 1)
    aNil)) (dC (.int 1)))))))))
/-! law(script) -/
def N_law : List Str := ["script", "k", "way", "rows", "vat", "text", "value", "change", "found", "row"]
def t_law : DS := (sSeq (sFor (iR1 (aCons (dCB fMax2 (aCons (dC (.int 6)) (aCons (dCB fMin2 (aCons (dC (.int 14)) (aCons (dCB fLen (aCons (dVar 0) aNil)) aNil))) aNil)))
    aNil)) (gNm 1) (sSeq (sOwn 4 (nCall 2 F_law_vat (aCons (dVar 0) (aCons (dVar 1) aNil)))) (sSeq (sAsg (dJoin (dC (.str "\n")) (dCall 1 F_law_lines (aCons (dCallR 2
    F_law_house 4 (aCons (dCallR 2 F_law_some 4 (aCons (dOfN (nLst (aCons (dC (.int 3)) (aCons (dC (.int 50)) (aCons (dOp oPow (dC (.int 10)) (dC (.int 30))) aNil)))))
    aNil)) aNil)) aNil))) (gNm 5)) (sSeq (sFor (iSq (dOfN (nLst (aCons (dOp oAdd (dVar 5) (dC (.str "\n"))) (aCons (dOp oAdd (dC (.str "\x20")) (dVar 5)) (aCons (dCallR 2
    F_law_odd 4 (aCons (dC (.int 2)) aNil)) (aCons (dOfN (nLst (aCons (dVar 5) aNil))) (aCons (dUpper (dVar 5)) (aCons (dOp oAdd (dVar 5) (dC (.str "\x20"))) aNil)))))))))
    (gNm 6) (sIf (dTst (dOp oNe (dCall 1 F_law_read_so (aCons (dVar 6) aNil)) (dCall 1 F_law_due (aCons (dVar 6) aNil)))) (sRet (dC (.bl false))) sNext)) (sFor (iR1 (aCons
    (dC (.int 7)) aNil)) (gNm 7) (sSeq (sAsg (dCallR 2 F_law_spoilt 4 (aCons (dVar 5) aNil)) (gNm 5)) (sSeq (sAsg (dCall 1 F_law_read_so (aCons (dVar 5) aNil)) (gNm 8))
    (sIf (tOrD (dTst (dOp oNe (dVar 8) (dCall 1 F_law_due (aCons (dVar 5) aNil)))) (dTst (dCB fIsi (aCons (dVar 8) (aCons (dC (.ty "bool")) aNil))))) (sRet (dC (.bl
    false))) sNext)))))))) (sSeq (sAsg (dC (.str "\nway\x200\x200\x201\x20-\x200\x20free")) (gNm 2)) (sSeq (sAsg (dOfN (nLst (aCons (dTupL (aCons (dC (.str "")) (aCons (dC
    (.int 1)) aNil))) (aCons (dTupL (aCons (dC .non) (aCons (dC (.int 0)) aNil))) (aCons (dTupL (aCons (dC (.str "size\x202\n")) (aCons (dC (.int 2)) aNil))) (aCons (dTupL
    (aCons (dC (.str "size\x202")) (aCons (dC (.int 2)) aNil))) (aCons (dTupL (aCons (dOp oAdd (dC (.str "size\x202")) (dOp oRepS (dVar 2) (dC (.int 4)))) (aCons (dC (.int
    6)) aNil))) (aCons (dTupL (aCons (dOp oAdd (dC (.str "size\x200")) (dVar 2)) (aCons (dC (.int 1)) aNil))) (aCons (dTupL (aCons (dSlS (dVar 2) (oSome (dC (.int 1)))
    oNo) (aCons (dC (.int 2)) aNil))) aNil))))))))) (gNm 3)) (sSeq (sAsg (dOp oAdd (dVar 3) (dOfN (nLst (aCons (dTupL (aCons (dC (.str
    "size\x202\nway\x200\x202\x201\x20-\x200\x20free")) (aCons (dC (.int 3)) aNil))) (aCons (dTupL (aCons (dC (.str "size\x202\nway\x200\x200\x203\x20-\x200\x20free"))
    (aCons (dC (.int 3)) aNil))) (aCons (dTupL (aCons (dC (.str "size\x202\nway\x200\x200\x201\x200\x200\x20free")) (aCons (dC (.int 3)) aNil))) aNil)))))) (gNm 3)) (sSeq
    (sAsg (dOp oAdd (dVar 3) (dOfN (nLst (aCons (dTupL (aCons (dOp oAdd (dOp oAdd (dC (.str "size\x202")) (dVar 2)) (dC (.str "\nway\x200\x200\x201\x201\x200\x20free")))
    (aCons (dC (.int 4)) aNil))) (aCons (dTupL (aCons (dC (.str "size\x202\nway\x200\x200\x201\x202\x200\x20free")) (aCons (dC (.int 2)) aNil))) (aCons (dTupL (aCons (dC
    (.str "size\x202\nway\x200\x200\x2001\x20-\x200\x20free")) (aCons (dC (.int 2)) aNil))) aNil)))))) (gNm 3)) (sSeq (sAsg (dOp oAdd (dVar 3) (dOfN (nLst (aCons (dTupL
    (aCons (dC (.str "size\x202\nway\x200\x200\x201\x20-\x2021\x20free")) (aCons (dC (.int 2)) aNil))) (aCons (dTupL (aCons (dC (.str
    "size\x202\nway\x200\x200\x201\x20-\x20\x20free")) (aCons (dC (.int 2)) aNil))) (aCons (dTupL (aCons (dOp oAdd (dC (.str "size\x201")) (dOp oRepS (dC (.str "0")) (dC
    (.int 31)))) (aCons (dC (.int 1)) aNil))) (aCons (dTupL (aCons (dOp oAdd (dOp oAdd (dC (.str "size\x202")) (dVar 2)) (dC (.str "\nsize\x202"))) (aCons (dC (.int 4))
    aNil))) aNil))))))) (gNm 3)) (sRet (dOp oEq (dOfN (nLc (iSq (dVar 3)) (gNm 9) (dTst (dOp oNe (dCall 1 F_law_read_so (aCons (dOp oIx (dVar 9) (dC (.int 0))) aNil)) (dOp
    oIx (dVar 9) (dC (.int 1))))) (dVar 9) [9])) (dOfN (nLst aNil))))))))))
end TS
set_option Elab.async false
set_option linter.all false
set_option maxRecDepth 100000
set_option maxHeartbeats 1000000
set_option exponentiation.threshold 10000
set_option synthInstance.maxSize 100000
set_option synthInstance.maxHeartbeats 0
namespace TS
open PySem PySem.Spec PyProof.Rows L2
theorem B_is_whole : Body t_is_whole 3 3 F_is_whole := Body.v fun ds Q E h => by
  unfold S_is_whole at h
  split at h
  · rename_i v lo hi
    obtain ⟨ok, h⟩ := h
    refine ⟨rfl, ?_⟩
    unfold t_is_whole
    cases v <;> simp [isTy_int ok, isTy_bool ok, isBl, isInt, isWhole] at h ⊢
    all_goals first | exact h | skip
    rename_i i
    by_cases q : lo ≤ i
    · right
      simpa [q] using h
    · left
      simp [q] at h
      exact ⟨by omega, h⟩
  · exact h.elim
theorem B_is_rising : Body t_is_rising 4 2 F_is_rising := Body.v fun ds Q E h => by
  unfold S_is_rising at h
  split at h
  · rename_i v most
    obtain ⟨ok, h⟩ := h
    refine ⟨rfl, ?_⟩
    unfold t_is_rising
    cases v <;> simp [F_is_whole, isTy_tup ok, isTup, isRising, eqL_nil] at h ⊢
    all_goals first | exact h | skip
    rename_i l
    obtain ⟨hl, he⟩ := pd_tup ok
    refine ⟨by show _ ≤ 1000000; omega, lcD_pure (p := fun d => !isWhole d 0 most) (f := id) (by simp) (by simp) _ _ _ (fun d hd Qb hq => ?_) (fun d hd hp Qd hq => ?_) ?_⟩
    · have hp := he d hd
      cases hb : isWhole d 0 most <;> simp [hb] at hq ⊢ <;> exact ⟨hp, hq⟩
    · simpa using hq
    · have ok1 : okD 60 (.lst (l.filter fun d => !isWhole d 0 most)) = true := pd_lok fun d hd => he d ((List.mem_filter.mp hd).1)
      have ok2 : okD 60 (.lst []) = true := rfl
      simp [ok1, ok2]
      by_cases hw : ∀ d ∈ l, isWhole d 0 most = true
      · left
        refine ⟨hw, by omega, by show _ ≤ 1000000; omega, lcD_pure (p := fun i => decide (intD (atD l (intD i).toNat) ≥ intD (atD l ((intD i).toNat + 1)))) (f := id) (by simp) (by simp) _ _ _ (fun d hd Qb hq => ?_) (fun d hd hp Qd hq => ?_) ?_⟩
        · simp at hd
          obtain ⟨i, hi, rfl⟩ := hd
          have h1 : i < l.length := by omega
          have h2 : i + 1 < l.length := by omega
          obtain ⟨a, ha⟩ : ∃ a, l[i] = .int a := by
            have := hw l[i] (List.getElem_mem h1)
            cases e : l[i] <;> rw [e] at this <;> simp [isWhole] at this
            exact ⟨_, rfl⟩
          obtain ⟨b, hb⟩ : ∃ b, l[i + 1] = .int b := by
            have := hw l[i + 1] (List.getElem_mem h2)
            cases e : l[i + 1] <;> rw [e] at this <;> simp [isWhole] at this
            exact ⟨_, rfl⟩
          have e1 : atD l i = .int a := by simp [atD, h1, ha]
          have e2 : atD l (i + 1) = .int b := by simp [atD, h2, hb]
          simp [e1, e2] at hq
          simp [h1, h2, ha, hb]
          by_cases q : b ≤ a
          · right
            simpa [q] using hq
          · left
            simp [q] at hq
            exact ⟨by omega, hq⟩
        · simpa using hq
        · have e : ((List.range (l.length - 1)).map fun (i : Nat) => D.int (i : Int)).filter (fun i => decide (intD (atD l (intD i).toNat) ≥ intD (atD l ((intD i).toNat + 1)))) = [] ↔ rising l = true := by
            simp [rising]
          have okk : ∀ ds : List D, okD 60 (.lst (((List.range (l.length - 1)).map fun (i : Nat) => D.int (i : Int)).filter (fun i => decide (intD (atD l (intD i).toNat) ≥ intD (atD l ((intD i).toNat + 1)))))) = true := fun _ => pd_lok fun d hd => by
            obtain ⟨i, _, rfl⟩ := List.mem_map.mp (List.mem_filter.mp hd).1
            rfl
          have hA : (l.all fun d => isWhole d 0 most) = true := List.all_eq_true.mpr hw
          rw [hA, Bool.true_and] at h
          simp only [List.nil_append, List.map_id]
          refine ⟨okk [], ?_⟩
          have e3 : (((List.range (l.length - 1)).map fun (i : Nat) => D.int (i : Int)).filter (fun i => decide (intD (atD l (intD i).toNat) ≥ intD (atD l ((intD i).toNat + 1))))).isEmpty = rising l := by
            rw [Bool.eq_iff_iff, List.isEmpty_iff, e]
          rw [e3]
          exact h
      · right
        simp at hw
        obtain ⟨d, hd, hw⟩ := hw
        refine ⟨⟨d, hd, hw⟩, ?_⟩
        have e : (l.all fun d => isWhole d 0 most) = false := by
          simp
          exact ⟨d, hd, hw⟩
        rw [e] at h
        exact h
  · exact h.elim
theorem B_is_part : Body t_is_part 4 4 F_is_part := Body.v fun ds Q E h => by
  unfold S_is_part at h
  split at h
  · rename_i size number place v
    obtain ⟨ok, h⟩ := h
    refine ⟨rfl, ?_⟩
    have ok2 := pd_ok ok
    unfold t_is_part
    by_cases h0 : place = 0
    · subst h0
      simp [isPart] at h
      simp [F_is_whole, F_is_rising, isTy_bool ok, eqD, okD, ok]
      exact h
    by_cases h1 : place = 1
    · subst h1
      simp [isPart] at h
      simp [F_is_whole, F_is_rising, isTy_bool ok, eqD, okD, ok]
      exact h
    by_cases h2 : place = 2
    · subst h2
      simp [isPart] at h
      simp [F_is_whole, F_is_rising, isTy_bool ok, eqD, okD, ok]
      exact h
    by_cases h3 : place = 3
    · subst h3
      simp [isPart] at h
      simp [F_is_whole, F_is_rising, isTy_bool ok, eqD, okD, ok]
      cases hn : isNon v <;> simp [hn] at h ⊢ <;> exact h
    by_cases h4 : place = 4
    · subst h4
      simp [isPart] at h
      simp [F_is_whole, F_is_rising, isTy_bool ok, eqD, okD, ok]
      cases hn : isRising v 2 <;> simp [hn] at h ⊢
      · exact h
      · exact ⟨ok2, h⟩
    simp [isPart, h0, h1, h2, h3, h4] at h
    simp [F_is_whole, F_is_rising, isTy_bool ok, eqD, okD, ok, h0, h1, h2, h3, h4, giveb]
    exact h
  · exact h.elim
theorem B_is_way : Body t_is_way 4 3 F_is_way := Body.v fun ds Q E h => by
  unfold S_is_way at h
  split at h
  · rename_i size number v
    obtain ⟨ok, h⟩ := h
    refine ⟨rfl, ?_⟩
    unfold t_is_way
    cases v <;> simp [F_is_part, isTy_tup ok, isTup, isWay, eqL_nil] at h ⊢
    all_goals first | exact h | skip
    rename_i l
    obtain ⟨hl, he⟩ := pd_tup ok
    by_cases h6 : (l.length : Int) = 6
    · have h6' : l.length = 6 := by omega
      simp [h6', MOST] at h ⊢
      first | refine ⟨by show (6 : Int) ≤ ((1000000 : Nat) : Int); omega, ?_⟩ | skip
      refine lcD_none (g := fun d => isPart size number (intD d) (atD l (intD d).toNat)) (by simp) (by simp) (pd_range (n := 6)) (fun d hd Qb hq => ?_) fun r hr hx => ?_
      · simp at hd
        obtain ⟨i, hi, rfl⟩ := hd
        have hi' : i < l.length := by omega
        have e : atD l i = l[i] := by simp [atD, hi']
        simp [e] at hq
        simp [hi', he l[i] (List.getElem_mem hi'), givet]
        exact hq
      · refine ⟨hr, ?_⟩
        rw [hx, List.all_map]
        exact h
    · have h6' : l.length ≠ 6 := by omega
      simp [h6, h6'] at h ⊢
      exact h
  · exact h.elim
theorem hh_shape {s w : D} : hasHouse (.tup [s, w]) = (isWhole s 1 MOST && isTup w && decide (1 ≤ (tupL w).length) && decide ((tupL w).length ≤ 3) && (List.range (tupL w).length).all fun i => isWay (intD s) i (atD (tupL w) i)) := rfl
theorem whole_int {s : D} {lo hi : Int} (h : isWhole s lo hi = true) : s = .int (intD s) := by
  cases s <;> first | rfl | cases h
theorem B_has_house : Body t_has_house 2 1 F_has_house := Body.v fun ds Q E h => by
  unfold S_has_house at h
  split at h
  · rename_i v
    obtain ⟨ok, h⟩ := h
    refine ⟨rfl, ?_⟩
    unfold t_has_house
    by_cases hv : isTup v = true
    · cases v <;> first | cases hv | skip
      rename_i l
      obtain ⟨hl, he⟩ := pd_tup ok
      match l, ok, h, he with
      | [s, w], ok, h, he =>
        have ps := he s (by simp)
        have pw := he w (by simp)
        rw [hh_shape] at h
        cases hs : isWhole s 1 MOST with
        | false =>
          simp [hs] at h
          simp [F_is_whole, F_is_way, isTy_tup ok, ps, show isWhole s 1 1000000000000000000000000000000 = false from hs]
          exact h
        | true =>
          obtain ⟨z, rfl⟩ : ∃ z, s = .int z := ⟨_, whole_int hs⟩
          by_cases hw : isTup w = true
          · cases w <;> first | cases hw | skip
            rename_i ws
            obtain ⟨hl2, he2⟩ := pd_tup pw
            simp [hs, tupL] at h
            simp [F_is_whole, F_is_way, isTy_tup ok, isTy_tup pw, ps, show isWhole (.int z) 1 1000000000000000000000000000000 = true from hs]
            by_cases q1 : 1 ≤ ws.length
            · right
              refine ⟨by omega, ?_⟩
              by_cases q2 : ws.length ≤ 3
              · right
                refine ⟨by omega, by omega, by show _ ≤ 1000000; omega, lcD_none (g := fun d => isWay z (intD d) (atD ws (intD d).toNat)) (by simp) (by simp) pd_range (fun d hd Qb hq => ?_) fun r hr hx => ?_⟩
                · simp at hd
                  obtain ⟨i, hi, rfl⟩ := hd
                  have e : atD ws i = ws[i] := by simp [atD, hi]
                  simp [e] at hq
                  simp [hi, he2 ws[i] (List.getElem_mem hi), givet]
                  exact hq
                · refine ⟨hr, ?_⟩
                  rw [hx, List.all_map]
                  simp [q1, q2] at h
                  exact h
              · left
                simp [q1, q2] at h
                exact ⟨by omega, h⟩
            · left
              simp [q1] at h
              exact ⟨by omega, h⟩
          · simp [hs, hw] at h
            simp [F_is_whole, F_is_way, isTy_tup ok, isTy_tup pw, ps, show isWhole (.int z) 1 1000000000000000000000000000000 = true from hs, hw]
            exact h
      | [], ok, h, he =>
        simp [hasHouse] at h
        simp [F_is_whole, F_is_way, isTy_tup ok]
        exact h
      | [_], ok, h, he =>
        simp [hasHouse] at h
        simp [F_is_whole, F_is_way, isTy_tup ok]
        exact h
      | _ :: _ :: _ :: r, ok, h, he =>
        have e : ((r.length : Int) + 1 + 1 + 1 = 2) = False := by
          simp
          omega
        simp [hasHouse] at h
        simp [F_is_whole, F_is_way, isTy_tup ok, e]
        exact h
    · have e : hasHouse v = false := by cases v <;> first | rfl | (exfalso; exact hv rfl)
      rw [e] at h
      have hv' : isTup v = false := by simpa using hv
      simp [isTy_tup ok, hv']
      exact h
  · exact h.elim
theorem in_PL {x : Str} : ((PL.map D.str).any fun y => eqD y (.str x)) = (plIx x).isSome := by
  unfold plIx
  generalize PL.map D.str = l
  induction l with
  | nil => rfl
  | cons d r ih =>
    simp only [List.any_cons, ixOf]
    by_cases hq : eqD d (.str x) = true
    · rw [if_pos hq, hq]
      rfl
    · rw [if_neg hq, Bool.eq_false_iff.mpr hq, Bool.false_or, ih, Option.isSome_map]
theorem B_law_part_names : Body t_law_part_names 0 0 F_law_part_names := Body.v fun ds Q E hh => by
  unfold S_law_part_names at hh
  split at hh
  · refine ⟨rfl, ?_⟩
    unfold t_law_part_names
    simp
    exact hh
  · exact hh.elim
theorem B_law_under : Body t_law_under 4 2 F_law_under := Body.b fun b ds Q E hh => by
  unfold S_law_under at hh
  split at hh
  · obtain ⟨⟨a, c, rfl, ha, hc⟩, ⟨hm, hM⟩, hq⟩ := hh
    refine ⟨rfl, ?_⟩
    unfold t_law_under
    simp
    rename_i many _
    have h1 : 0 ≤ (c * 39373 + 101) % 2147483629 ∧ (c * 39373 + 101) % 2147483629 < 2147483629 := ⟨Int.emod_nonneg _ (by decide), Int.emod_lt_of_pos _ (by decide)⟩
    generalize (c * 39373 + 101) % 2147483629 = e at h1
    by_cases h : a ≤ 0
    · left
      refine ⟨h, Or.inl ⟨by decide, by decide⟩, 1, rfl, ?_⟩
      simp
      refine ⟨⟨by decide, by decide⟩, Or.inl ⟨by omega, by omega⟩, ⟨by decide, by decide⟩, hm, ?_⟩
      exact hq _ _ (Int.emod_nonneg _ (by omega)) (Int.emod_lt_of_pos _ hm) ⟨a, e, rfl, ha, h1.1⟩
    · right
      refine ⟨by omega, hm, ⟨hm, ?_⟩, ?_⟩
      · exact Int.lt_of_le_of_lt hM (by decide)
      · exact hq _ _ (Int.emod_nonneg _ (by omega)) (Int.emod_lt_of_pos _ hm) ⟨_, c, rfl, Int.ediv_nonneg ha (by omega), hc⟩
  · exact hh.elim
theorem B_law_some : Body t_law_some 2 2 F_law_some := Body.b fun b ds Q E hh => by
  unfold S_law_some at hh
  split at hh
  · obtain ⟨hv, ⟨hn, hl⟩, hq⟩ := hh
    refine ⟨rfl, ?_⟩
    unfold t_law_some
    simp [F_law_under]
    rename_i xs
    have hp : 0 < xs.length := List.length_pos_iff.mpr hn
    refine ⟨hv, ⟨hp, by omega⟩, fun r m' h0 h1 hm => ?_⟩
    obtain ⟨j, rfl⟩ : ∃ j : Nat, r = j := ⟨r.toNat, by omega⟩
    have hr : j < xs.length := by omega
    refine ⟨xs[j], ?_, hq _ (List.getElem_mem hr) m' hm⟩
    simp [hr]
  · exact hh.elim
theorem B_law_kinds : Body t_law_kinds 1 1 F_law_kinds := Body.b fun b ds Q E hh => by
  unfold S_law_kinds at hh
  split at hh
  · obtain ⟨hv, hq⟩ := hh
    refine ⟨rfl, ?_⟩
    unfold t_law_kinds
    have l3 : 3 ≤ LIM := by show 3 ≤ 1000000; omega
    have l1 : 1 ≤ LIM := by show 1 ≤ 1000000; omega
    have l2 : 2 ≤ LIM := by show 2 ≤ 1000000; omega
    have l6 : 6 ≤ LIM := by show 6 ≤ 1000000; omega
    simp [F_law_some, l3, l1, l2, l6]
    exact ⟨hv, hq [0, 1, 2] (by simp [kindSets]), hq [0] (by simp [kindSets]), hq [1] (by simp [kindSets]), hq [0, 2] (by simp [kindSets]), hq [1, 2] (by simp [kindSets])⟩
  · exact hh.elim
def InvHouse (most size : Int) (i : Nat) (s : Rho) : Prop := ∃ (m' : List D) (ws : List Wy) (x y z : Sl), s = [.brw m', .val (.int most), x, .val (.int size), .val (.tup (ws.map Wy.d)), y, z] ∧ nb x ∧ nb y ∧ nb z ∧ Vat m' ∧ ws.length = i ∧ ∀ j w, ws[j]? = some w → GoodW size j w
theorem InvHouse.next {most size : Int} {i : Nat} {ws : List Wy} {f : Option Int} {wd st sh : Int} {kd : List Int} {kp : Bool} {m2 : List D} {xx yy zz : Sl} {wt : D} (hl : ws.length = i) (hg : ∀ j w, ws[j]? = some w → GoodW size j w) (h1 : nb xx) (h2 : nb yy) (h3 : nb zz) (h4 : Vat m2) (h5 : GoodW size i ⟨wd, st, sh, f, kd, kp⟩) (e : wt = .tup [.int wd, .int st, .int sh, optD f, .tup (kd.map .int), .bl kp]) :
    InvHouse most size (i + 1) [.brw m2, .val (.int most), xx, .val (.int size), .val (.tup (ws.map Wy.d ++ [wt])), yy, zz] := by
  subst e
  refine ⟨m2, ws ++ [⟨wd, st, sh, f, kd, kp⟩], xx, yy, zz, ?_, h1, h2, h3, h4, by simp [hl], good_snoc hg (by rw [hl]; exact h5)⟩
  simp [Wy.d]
theorem B_law_house : Body t_law_house 7 2 F_law_house := Body.b fun b ds Q E hh => by
  unfold S_law_house at hh
  split at hh
  · obtain ⟨hv, hM, hq⟩ := hh
    refine ⟨rfl, ?_⟩
    unfold t_law_house
    simp [F_law_under, F_law_kinds]
    rename_i most
    refine ⟨hv, ⟨by omega, by omega⟩, fun r m0 r0 r1 v0 => ⟨v0, fun c m1 c0 c1 v1 => ⟨⟨by omega, by omega⟩, ?_⟩⟩⟩
    refine forD_ix (InvHouse most (1 + r)) ?_ ?_ ?_
    · exact ⟨m1, [], _, _, _, rfl, trivial, trivial, trivial, v1, rfl, by simp⟩
    · rintro i d s hd ⟨m', ws, x, y, z, rfl, hx, hy, hz, hv', hl, hg⟩
      obtain ⟨rfl, hi⟩ := rng_get' hd
      have hlim : ws.length + 1 ≤ LIM := by show _ ≤ 1000000; omega
      have fin := @InvHouse.next most (1 + r) i ws
      simp [hx, hy, hz, hlim]
      have sub : ∀ {f : Option Int} {fd : D}, fd = optD f → (∀ x, f = some x → 0 ≤ x ∧ x < i) → ∀ (a : Int), 0 ≤ a → a < 2 → ∀ (b : Int), 0 ≤ b → b < 1 + r → ∀ c : Int, 0 ≤ c → c < 1 + r + 1 → ∀ k ∈ kindSets, ∀ (p : Bool) (m2 : List D), Vat m2 → ∀ (yy zz : Sl), nb yy → nb zz →
          InvHouse most (1 + r) (i + 1) [.brw m2, .val (.int most), .val (.int i), .val (.int (1 + r)), .val (.tup (ws.map Wy.d ++ [.tup [.int a, .int b, .int c, fd, .tup (k.map .int), .bl p]])), yy, zz] :=
        fun {f fd} e hf a a0 a1 b b0 b1 c c0 c1 k hk p m2 v2 yy zz hy hz => fin (f := f) (kp := p) hl hg trivial hy hz v2 ⟨by show a = 0 ∨ a = 1; omega, ⟨b0, b1⟩, ⟨c0, by show c ≤ 1 + r; omega⟩, hf, kindSets_sub hk⟩ (by rw [e])
      by_cases h0 : i = 0
      · refine Or.inl ⟨h0, ?_⟩
        exact ⟨hv', fun a m a0 a1 v => ⟨v, ⟨by omega, by omega⟩, fun b m b0 b1 v => ⟨v, ⟨by omega, by omega⟩, fun c m c0 c1 v => ⟨v, fun k hk m v => ⟨v, fun p m p0 p1 v => sub (f := none) rfl (by simp) a a0 a1 b b0 b1 c c0 c1 k hk (p == 0) m v _ _ trivial trivial⟩⟩⟩⟩⟩
      · refine Or.inr ⟨by omega, hv', fun g m g0 g1 v => ?_⟩
        by_cases h3 : g = 0
        · refine Or.inr ⟨h3, v, ⟨by omega, by omega⟩, fun x m x0 x1 v => ?_⟩
          exact ⟨v, fun a m a0 a1 v => ⟨v, ⟨by omega, by omega⟩, fun b m b0 b1 v => ⟨v, ⟨by omega, by omega⟩, fun c m c0 c1 v => ⟨v, fun k hk m v => ⟨v, fun p m p0 p1 v => sub (f := some x) rfl (by intro y e; cases e; exact ⟨x0, x1⟩) a a0 a1 b b0 b1 c c0 c1 k hk (p == 0) m v _ _ trivial trivial⟩⟩⟩⟩⟩
        · refine Or.inl ⟨h3, ?_⟩
          exact ⟨v, fun a m a0 a1 v => ⟨v, ⟨by omega, by omega⟩, fun b m b0 b1 v => ⟨v, ⟨by omega, by omega⟩, fun c m c0 c1 v => ⟨v, fun k hk m v => ⟨v, fun p m p0 p1 v => sub (f := none) rfl (by simp) a a0 a1 b b0 b1 c c0 c1 k hk (p == 0) m v _ _ trivial trivial⟩⟩⟩⟩⟩
    · rintro s ⟨m', ws, x, y, z, rfl, hx, hy, hz, hv', hl, hg⟩
      simp
      refine hq ⟨1 + r, ws⟩ ⟨⟨by show 1 ≤ 1 + r; omega, by show 1 + r ≤ _; omega⟩, ?_, hg⟩ (by show 1 + r ≤ most; omega) m' hv'
      simp at hl
      show 1 ≤ ws.length ∧ ws.length ≤ 3
      omega
  · exact hh.elim
theorem B_law_vat : Body t_law_vat 3 2 F_law_vat := Body.v fun ds Q E hh => by
  unfold S_law_vat at hh
  split at hh
  · obtain ⟨⟨k0, k1⟩, hq⟩ := hh
    refine ⟨rfl, ?_⟩
    unfold t_law_vat
    simp
    rename_i ns k
    have m1 : MulOk 7919 k := Or.inr (Or.inl ⟨by omega, by omega⟩)
    have m2 : MulOk 8191 k := Or.inr (Or.inl ⟨by omega, by omega⟩)
    have m3 : ∀ c : Int, MulOk c 131071 := fun c => Or.inl ⟨by omega, by omega⟩
    have key : ∀ c : Int, 0 ≤ c → (c < 1000000000000000000 ∧ MulOk c 131071 ∧ MulOk 8191 k ∧ Q (.lst [.int 0, .int ((c * 131071 + 8191 * k + 5) % 2147483629 + 1)]) ∨
        1000000000000000000 ≤ c ∧ MulOk c 131071 ∧ MulOk 8191 k ∧ Q (.lst [.int c, .int ((c * 131071 + 8191 * k + 5) % 2147483629 + 1)])) := fun c hc => by
      have h : 0 ≤ (c * 131071 + 8191 * k + 5) % 2147483629 := Int.emod_nonneg _ (by decide)
      by_cases q : c < 1000000000000000000
      · exact Or.inl ⟨q, m3 c, m2, hq _ ⟨0, _, rfl, by omega, by omega⟩⟩
      · exact Or.inr ⟨by omega, m3 c, m2, hq _ ⟨c, _, rfl, hc, by omega⟩⟩
    refine ⟨m1, ?_⟩
    by_cases q : (ns.length : Int) ≤ k
    · exact Or.inl ⟨q, key _ (by omega)⟩
    · refine Or.inr ⟨by omega, ?_⟩
      obtain ⟨j, rfl⟩ : ∃ j : Nat, k = j := ⟨k.toNat, by omega⟩
      have hj : j < ns.length := by omega
      refine ⟨ns[j], by simp [hj], key _ ?_⟩
      split <;> omega
  · exact hh.elim
/-- the lines laid so far -/
def InvLn (h : Hs) (i : Nat) (s : Rho) : Prop := ∃ hd x2 x3 x4 x5 x6 x7 x8 x9, s = [hd, .own (((sizeL h.size :: (h.ways.take i).map wayL).map SX.S).map D.str), x2, x3, x4, x5, x6, x7, x8, x9] ∧ nb x2 ∧ nb x3 ∧ nb x4 ∧ nb x5 ∧ nb x6 ∧ nb x7 ∧ nb x8 ∧ nb x9
def InvKd (x0 x1 x2 x3 x4 x5 x6 x7 : Sl) (p : List Nat) (ks : List Int) (j : Nat) (s : Rho) : Prop := ∃ x9, s = [x0, x1, x2, x3, x4, x5, x6, x7, .val (.str (SX.S (p ++ kindL (ks.take j)))), x9] ∧ nb x9
theorem B_law_lines : Body t_law_lines 10 1 F_law_lines := Body.v fun ds Q E hh => by
  unfold S_law_lines at hh
  split at hh
  · obtain ⟨h, rfl, g, hq⟩ := hh
    refine ⟨rfl, ?_⟩
    have hs := @strI_n h.size (by have := g.size; omega)
    have nl := numI_len g.size.2
    have hm := g.many
    unfold t_law_lines
    simp [Hs.d, hs]
    refine ⟨?_, ?_⟩
    · rw [s_sizeb, SX.S_len, SX.S_len]
      show _ ≤ 1000000
      simp
      omega
    rw [size_cat]
    refine forD_ix (InvLn h) ⟨_, _, _, _, _, _, _, _, _, rfl, trivial, trivial, trivial, trivial, trivial, trivial, trivial, trivial⟩ ?_ ?_
    · rintro i d s hi ⟨x0, x2, x3, x4, x5, x6, x7, x8, x9, rfl, n2, n3, n4, n5, n6, n7, n8, n9⟩
      rw [List.getElem?_map] at hi
      obtain ⟨w, hw, rfl⟩ := Option.map_eq_some_iff.mp hi
      have hwm := List.mem_of_getElem? hw
      have g1 := g.wr hwm
      have nn := g1.nums
      have l1 := @strI_n _ nn.1
      have l2 := @strI_n _ nn.2.1
      have l3 := @strI_n _ nn.2.2
      have m1 := numI_len nn.1.2
      have m2 := numI_len nn.2.1.2
      have m3 := numI_len nn.2.2.2
      have m4 := fenL_len g1
      have m5 := kindL_len g1
      have m6 := keepL_len w.keeps
      have bk : w.kinds.length ≤ LIM := by have := (KS_nums _ g1.kinds).1; show _ ≤ 1000000; omega
      have til : i < h.ways.length := (List.getElem?_eq_some_iff.mp hw).1
      have e1 : h.ways.take (i + 1) = h.ways.take i ++ [w] := by rw [List.take_add_one, hw]; rfl
      cases hf : w.fence with
      | none =>
        simp [Wy.d, n2, n3, n4, n5, n6, n7, hf, optD, isNon, -oAdd_s, oAdd_S, s_wayb, s_sp, s_nob, l1, l2, l3]
        repeat (refine ⟨?_, ?_⟩; · first | exact n8 | exact bk | (show _ ≤ 1000000; (try simp only [List.length_append, List.length_cons, List.length_nil]); omega))
        refine forD_ix (InvKd _ _ _ _ _ _ _ _ ([119, 97, 121, 32] ++ numI w.word ++ [32] ++ numI w.start ++ [32] ++ numI w.share ++ [32, 45] ++ [32]) w.kinds) ⟨x9, by refine congrArg (fun z => [_, _, _, _, _, _, _, _, Sl.val (D.str (SX.S z)), x9]) ?_; simp [kindL], n9⟩ ?_ ?_
        · rintro j d s hj ⟨x9, rfl, n9⟩
          rw [List.getElem?_map] at hj
          obtain ⟨k, hk, rfl⟩ := Option.map_eq_some_iff.mp hj
          have hkm := List.mem_of_getElem? hk
          have lk := @strI_n k (by have := (KS_nums _ g1.kinds).2 k hkm; omega)
          have kl := numI_len (i := k) (by have := (KS_nums _ g1.kinds).2 k hkm; omega)
          have kt := @kindL_take w.kinds j
          simp [n9, -oAdd_s, oAdd_S, lk]
          refine ⟨by show _ ≤ 1000000; omega, .val (.int k), ?_, trivial⟩
          refine congrArg (fun z => [_, _, _, _, _, _, _, _, Sl.val (D.str (SX.S z)), _]) ?_
          rw [kindL_snoc hk]
          simp
        · rintro s ⟨x9, rfl, n9⟩
          rw [List.length_map, List.take_length]
          cases hb : w.keeps
          all_goals
            simp [-oAdd_s, oAdd_S, s_freeb, s_keptb]
            refine ⟨by show _ ≤ 1000000; omega, by show _ < 1000000; omega, ?_⟩
            refine ⟨_, _, _, _, _, _, _, _, _, congrArg (fun z => [_, Sl.own z, _, _, _, _, _, _, _, _]) ?_, trivial, trivial, trivial, trivial, trivial, trivial, trivial, n9⟩
            simp [e1, Function.comp_def, wayL, wayWs, TL.joinL, hf, hb, fenL, keepL, wWay, wFree, wKept]
      | some f =>
        have l4 := @strI_n f (by have := g1.fence f hf; omega)
        have m7 := numI_len (i := f) (by have := g1.fence f hf; omega)
        simp [Wy.d, n2, n3, n4, n5, n6, n7, hf, optD, isNon, -oAdd_s, oAdd_S, s_wayb, s_sp, s_nob, l1, l2, l3, l4]
        repeat (refine ⟨?_, ?_⟩; · first | exact n8 | exact bk | (show _ ≤ 1000000; (try simp only [List.length_append, List.length_cons, List.length_nil]); omega))
        refine forD_ix (InvKd _ _ _ _ _ _ _ _ ([119, 97, 121, 32] ++ numI w.word ++ [32] ++ numI w.start ++ [32] ++ numI w.share ++ ([32] ++ numI f) ++ [32]) w.kinds) ⟨x9, by refine congrArg (fun z => [_, _, _, _, _, _, _, _, Sl.val (D.str (SX.S z)), x9]) ?_; simp [kindL], n9⟩ ?_ ?_
        · rintro j d s hj ⟨x9, rfl, n9⟩
          rw [List.getElem?_map] at hj
          obtain ⟨k, hk, rfl⟩ := Option.map_eq_some_iff.mp hj
          have hkm := List.mem_of_getElem? hk
          have lk := @strI_n k (by have := (KS_nums _ g1.kinds).2 k hkm; omega)
          have kl := numI_len (i := k) (by have := (KS_nums _ g1.kinds).2 k hkm; omega)
          have kt := @kindL_take w.kinds j
          simp [n9, -oAdd_s, oAdd_S, lk]
          refine ⟨by show _ ≤ 1000000; omega, .val (.int k), ?_, trivial⟩
          refine congrArg (fun z => [_, _, _, _, _, _, _, _, Sl.val (D.str (SX.S z)), _]) ?_
          rw [kindL_snoc hk]
          simp
        · rintro s ⟨x9, rfl, n9⟩
          rw [List.length_map, List.take_length]
          cases hb : w.keeps
          all_goals
            simp [-oAdd_s, oAdd_S, s_freeb, s_keptb]
            refine ⟨by show _ ≤ 1000000; omega, by show _ < 1000000; omega, ?_⟩
            refine ⟨_, _, _, _, _, _, _, _, _, congrArg (fun z => [_, Sl.own z, _, _, _, _, _, _, _, _]) ?_, trivial, trivial, trivial, trivial, trivial, trivial, trivial, n9⟩
            simp [e1, Function.comp_def, wayL, wayWs, TL.joinL, hf, hb, fenL, keepL, wWay, wFree, wKept]
    · rintro s ⟨x0, x2, x3, x4, x5, x6, x7, x8, x9, rfl, _⟩
      simp
      simpa [linesL] using hq
  · exact hh.elim
theorem S_em (a : List Nat) : (SX.S a == Str.ofString "") = a.isEmpty := by
  rw [s_em, SX.S_beq]
  cases a <;> rfl
theorem sok_T {l : List Nat} (h : ∀ c ∈ l, c < 128) : PyData.strOk (SX.S l) = true := sok_S fun c hc => by have := h c hc; omega
theorem dig_in (c : Nat) : (!(Builtin.Str.occurrences (Str.ofString "0123456789") ⟨#[c]⟩ 0 (Str.ofString "0123456789").length 1).isEmpty) = (decide (48 ≤ c) && decide (c ≤ 57)) := by
  rw [s_dig]
  refine (SX.in_one [48, 49, 50, 51, 52, 53, 54, 55, 56, 57] c).trans ?_
  rw [Bool.eq_iff_iff]
  simp only [decide_eq_true_eq, Bool.and_eq_true, List.mem_cons, List.not_mem_nil, or_false]
  omega
theorem nd_empty (l : List Nat) : (l.filter fun c => !(decide (48 ≤ c) && decide (c ≤ 57))) = [] ↔ digL l = true := by
  rw [List.filter_eq_nil_iff, digL_iff]
  simp
theorem nd_ok {l : List Nat} (h : ∀ c ∈ l, c < 128) : okD 60 (.lst ((l.filter fun c => !(decide (48 ≤ c) && decide (c ≤ 57))).map fun c => D.str ⟨#[c]⟩)) = true := by
  simp only [okD, List.all_eq_true]
  intro d hd
  obtain ⟨c, hc, rfl⟩ := List.mem_map.mp hd
  exact sok_S (a := [c]) fun x hx => by
    rw [List.mem_singleton.mp hx]
    have := h c (List.mem_filter.mp hc).1
    omega
/-- the walk over the signs that are no digits -/
theorem nd_walk {i : Nat} {l : List Nat} {ρ : Rho} {Q : List D → Rho → Prop} (hi : i < ρ.length) (hs : nb (slAt ρ i)) (hq : Q ((l.filter fun c => !(decide (48 ≤ c) && decide (c ≤ 57))).map fun c => D.str ⟨#[c]⟩) ρ) :
    lcD (gNm i) (dTst (dOp oNotIn (dVar i) (dC (.str (Str.ofString "0123456789"))))) (dVar i) [i] (l.map fun c => D.str ⟨#[c]⟩) [] ρ Q := by
  refine lcD_pure (p := fun d => match d with
    | .str x => !(x.cps.toList.all fun c => decide (48 ≤ c) && decide (c ≤ 57))
    | _ => true) (f := id) hi hs _ [] Q (fun d h Qb hq => ?_) (fun d h hp Qd hq => ?_) ?_
  · obtain ⟨c, hc, rfl⟩ := List.mem_map.mp h
    have e : slAt (ρ.set i (.val (.str ⟨#[c]⟩))) i = .val (.str ⟨#[c]⟩) := by rw [slAt_set, if_pos ⟨rfl, hi⟩]
    simp only [dTst_s, dOp_s, dVar_s, e, dC_s, oNotIn_cc, dig_in]
    refine ⟨_, rfl, ?_⟩
    simpa using hq
  · have e : slAt (ρ.set i (.val d)) i = .val d := by rw [slAt_set, if_pos ⟨rfl, hi⟩]
    rw [dVar_s, e]
    exact hq
  · simp only [List.nil_append, List.map_id]
    have e : (l.map fun c => D.str ⟨#[c]⟩).filter (fun d => match d with
      | .str x => !(x.cps.toList.all fun c => decide (48 ≤ c) && decide (c ≤ 57))
      | _ => true) = (l.filter fun c => !(decide (48 ≤ c) && decide (c ≤ 57))).map fun c => D.str ⟨#[c]⟩ := by
      rw [List.filter_map]
      refine congrArg _ (List.filter_congr fun c _ => ?_)
      simp
    rw [e]
    exact hq
theorem strI_w {i : Int} (h : 0 ≤ i) (h2 : i < 100000000000000000000000000000000000000000) {Q : D → Prop} : fStrI [.int i] Q = Q (.str (SX.S (numI i))) := by
  show (i.natAbs.log2 < 1920 ∧ Q (.str (Str.ofString (toString i)))) = _
  rw [num_i h]
  refine propext ⟨fun z => z.2, fun z => ⟨?_, z⟩⟩
  by_cases e : i.natAbs = 0
  · rw [e]; decide
  · exact (Nat.log2_lt e).mpr (Nat.lt_of_le_of_lt (show i.natAbs ≤ 100000000000000000000000000000000000000000 by omega) (by decide))
theorem B_number_of : Body t_number_of 4 2 F_number_of := Body.v fun ds Q E hh => by
  unfold S_number_of at hh
  split at hh
  · rename_i a low
    obtain ⟨l, rfl, tx, hlow, hq⟩ := hh
    refine ⟨rfl, ?_⟩
    have so := sok_T tx.2
    have se : PyData.strOk (Str.ofString "") = true := by rw [s_em]; exact sok_nil
    have bl : (SX.S l).length ≤ LIM := by rw [SX.S_len]; show _ ≤ 1000000; have := tx.1; omega
    have ndo := nd_ok tx.2
    unfold t_number_of
    simp [so, se, S_em]
    by_cases h0 : l = []
    · subst h0
      exact .inr ⟨rfl, hq⟩
    refine .inl ⟨h0, bl, ?_⟩
    by_cases h31 : 31 < l.length
    · refine .inr ⟨by rw [SX.S_len]; omega, ?_⟩
      have e : numO low l = none := if_neg fun z => by have := canon_len z.1 z.2.2; omega
      rw [e] at hq
      exact hq
    refine .inl ⟨by rw [SX.S_len]; omega, by show _ ≤ 1000000; omega, nd_walk (by simp) trivial ⟨ndo, ?_⟩⟩
    by_cases hd : digL l = true
    · refine .inl ⟨by rw [(nd_empty l).mpr hd]; rfl, ?_⟩
      have iv := int_any hd h0 (by omega)
      have sv := @strI_w _ (valN_0 l) (by
        have := val_len l hd
        have e : (10 : Nat) ^ l.length ≤ 10 ^ 31 := Nat.pow_le_pow_right (by decide) (by omega)
        unfold valN
        omega)
      simp [iv, sv, so]
      refine ⟨by rw [SX.S_len]; omega, ?_⟩
      rw [num_val]
      by_cases hc : canon l = true
      · have e : TL.numL (NumText.digitsVal l) = l := canon_num hc
        refine .inr ⟨e, ?_⟩
        by_cases h1 : low ≤ valN l
        · by_cases h2 : valN l ≤ 1000000000000000000000000000000
          · rw [show numO low l = some (valN l) from if_pos ⟨hc, h1, h2⟩] at hq
            exact .inr ⟨h1, .inr ⟨h2, hq⟩⟩
          · rw [show numO low l = none from if_neg fun z => h2 z.2.2] at hq
            exact .inr ⟨h1, .inl ⟨by omega, hq⟩⟩
        · rw [show numO low l = none from if_neg fun z => h1 z.2.1] at hq
          exact .inl ⟨by omega, hq⟩
      · rw [show numO low l = none from if_neg fun z => hc z.1] at hq
        exact .inl ⟨fun z => hc (canon_iff.mp z), hq⟩
    · refine .inr ⟨fun z => hd ((nd_empty l).mp (List.map_eq_nil_iff.mp z)), ?_⟩
      rw [show numO low l = none from if_neg fun z => hd (by
        have := z.1
        simp only [canon, Bool.and_eq_true] at this
        exact this.1.2)] at hq
      exact hq
  · exact hh.elim
theorem spl_ok {c : Nat} {l : List Nat} (h : TxO l) : ∀ p ∈ sp1 c l, TxO p := fun p hp => by
  have e := spl_lens (c := c) l []
  have m : p.length ≤ lenS (TL.spl [c] 0 [] l) := lenS_mem hp
  have := h.1
  refine ⟨by simp at e; omega, fun x hx => ?_⟩
  rcases spl_mem l [] p hp x hx with z | z
  · cases z
  · exact h.2 x z
theorem spl_sp {l : List Nat} : Txt.split (SX.S l) (Str.ofString " ") = (sp1 32 l).map SX.S := by
  rw [s_sp]
  exact SX.split_S (by decide) (by decide)
theorem spl_nl {l : List Nat} : Txt.split (SX.S l) (Str.ofString "\n") = (sp1 10 l).map SX.S := by
  rw [s_nl]
  exact SX.split_S (by decide) (by decide)
theorem B_size_of : Body t_size_of 2 1 F_size_of := Body.v fun ds Q E hh => by
  unfold S_size_of at hh
  split at hh
  · rename_i a
    obtain ⟨l, rfl, tx, hq⟩ := hh
    refine ⟨rfl, ?_⟩
    have bl : (SX.S l).length ≤ LIM := by rw [SX.S_len]; show _ ≤ 1000000; have := tx.1; omega
    have b2 : (sp1 32 l).length ≤ LIM := by rw [spl_count]; show _ ≤ 1000000; have := tx.1; have := List.count_le_length (a := 32) (l := l); omega
    have ok := spl_ok (c := 32) tx
    unfold t_size_of
    simp [spl_sp, bl, F_number_of, SX.S_len]
    unfold sizeO at hq
    generalize sp1 32 l = ws at *
    have s0 : PyData.strOk (Str.ofString "size") = true := by rw [s_size]; exact sok_size
    have bl2 : l.length ≤ LIM := by show _ ≤ 1000000; have := tx.1; omega
    refine ⟨⟨by rw [s_sp]; decide, bl2⟩, ?_⟩
    match ws, ok, hq with
    | [], _, hq => exact .inl ⟨by simp, hq⟩
    | [_], _, hq => exact .inl ⟨by simp, hq⟩
    | _ :: _ :: _ :: _, _, hq => exact .inl ⟨by simp; omega, hq⟩
    | [w, a], ok, hq =>
      refine .inr ⟨by simp, .str (SX.S w), ⟨_, ⟨w, rfl, rfl⟩, rfl⟩, ⟨sok_T (ok w (by simp)).2, s0⟩, ?_⟩
      rw [eqD_ss, s_size, SX.S_beq_eq]
      by_cases hw : w = wSize
      · simp only [hw, if_true] at hq
        exact .inr ⟨by simp [hw], .str (SX.S a), ⟨_, ⟨a, rfl, rfl⟩, rfl⟩, a, rfl, ok a (by simp), by decide, hq⟩
      · simp only [hw, if_false] at hq
        exact .inl ⟨by simp [hw], hq⟩
  · exact hh.elim
theorem B_law_number : Body t_law_number 2 1 F_law_number := Body.v fun ds Q E hh => by
  unfold S_law_number at hh
  split at hh
  · rename_i a
    obtain ⟨l, rfl, tx, hq⟩ := hh
    refine ⟨rfl, ?_⟩
    have so := sok_T tx.2
    have se : PyData.strOk (Str.ofString "") = true := by rw [s_em]; exact sok_nil
    have s0 : PyData.strOk (Str.ofString "0") = true := by rw [s_d0]; exact sok_S (by decide)
    have bl : l.length ≤ LIM := by show _ ≤ 1000000; have := tx.1; omega
    have ndo := nd_ok tx.2
    unfold t_law_number
    simp [so, se, s0, S_em, SX.S_len, bl]
    by_cases h0 : l = []
    · subst h0
      exact .inr ⟨rfl, hq⟩
    refine .inl ⟨h0, nd_walk (by simp) trivial ⟨ndo, ?_⟩⟩
    by_cases hd : digL l = true
    · refine .inl ⟨by rw [(nd_empty l).mpr hd]; rfl, ?_⟩
      simp [so, s_d0, SX.S_beq_eq, SX.S_len, bl]
      have tail : canon l = true → (40 ≤ (l.length : Int) ∧ Q .non) ∨ (l.length : Int) < 40 ∧ ∃ n, intText? (SX.S l) = some n ∧ l.length ≤ 640 ∧ ((1000000000000000000000000000000 < n ∧ Q .non) ∨ (n ≤ 1000000000000000000000000000000 ∧ ∃ n, intText? (SX.S l) = some n ∧ l.length ≤ 640 ∧ Q (.int n))) := by
        intro hc
        by_cases h40 : l.length < 40
        · refine .inr ⟨by omega, valN l, int_any hd h0 (by omega), by omega, ?_⟩
          by_cases h2 : valN l ≤ 1000000000000000000000000000000
          · rw [show numO 0 l = some (valN l) from if_pos ⟨hc, valN_0 l, h2⟩] at hq
            exact .inr ⟨h2, valN l, int_any hd h0 (by omega), by omega, hq⟩
          · rw [show numO 0 l = none from if_neg fun z => h2 z.2.2] at hq
            exact .inl ⟨by omega, hq⟩
        · rw [show numO 0 l = none from if_neg fun z => by have := canon_len z.1 z.2.2; omega] at hq
          exact .inl ⟨by omega, hq⟩
      by_cases h48 : l = [48]
      · exact .inl ⟨h48, tail (by rw [h48]; rfl)⟩
      · refine .inr ⟨h48, ?_⟩
        cases hl : l with
        | nil => exact absurd hl h0
        | cons c r =>
          refine ⟨c, by rw [← hl, SX.S_len]; exact bl, by simp, sok_S (a := [c]) fun x hx => by
            rw [List.mem_singleton.mp hx]
            have := tx.2 c (by rw [hl]; simp)
            omega, ?_⟩
          have e : eqD (.str ⟨#[c]⟩) (.str (SX.S [48])) = decide (c = 48) := by
            rw [eqD_ss]
            refine (SX.S_beq_eq (a := [c]) (b := [48])).trans ?_
            simp
          rw [e, ← hl]
          by_cases h : c = 48
          · rw [show numO 0 l = none from if_neg fun z => by
              have := z.1
              simp only [canon, Bool.and_eq_true, Bool.or_eq_true] at this
              rcases this.2 with q | q
              · exact h48 (by simpa using q)
              · rw [hl] at q
                simp [h] at q] at hq
            exact .inr ⟨decide_eq_true h, hq⟩
          · refine .inl ⟨decide_eq_false h, tail ?_⟩
            simp only [canon, Bool.and_eq_true, Bool.or_eq_true]
            refine ⟨⟨by rw [hl]; rfl, hd⟩, .inr ?_⟩
            rw [hl]
            simpa using h
    · refine .inr ⟨fun z => hd ((nd_empty l).mp (List.map_eq_nil_iff.mp z)), ?_⟩
      rw [show numO 0 l = none from if_neg fun z => hd (by
        have := z.1
        simp only [canon, Bool.and_eq_true] at this
        exact this.1.2)] at hq
      exact hq
  · exact hh.elim
theorem lc_map {i : Nat} {te : DE} {ρ : Rho} {ds : List D} {f : D → D} {Q : List D → Rho → Prop} (hi : i < ρ.length) (hs : nb (slAt ρ i)) (hb : ∀ d ∈ ds, ∀ Qd : D → Rho → Prop, Qd (f d) (ρ.set i (.val d)) → te (ρ.set i (.val d)) Qd (fun _ _ => False))
    (hq : Q (ds.map f) ρ) : lcD (gNm i) tYesD te [i] ds [] ρ Q := by
  refine lcD_pure (p := fun _ => true) (f := f) hi hs ds [] Q (fun d h Qb hq => hq) (fun d h hp Qd hq => hb d h Qd hq) ?_
  have e : ds.filter (fun _ => true) = ds := List.filter_eq_self.mpr fun _ _ => rfl
  rw [e, List.nil_append]
  exact hq
def strL : D → List Nat
  | .str x => x.cps.toList
  | _ => []
/-- the walk over the signs of a kinds' word -/
theorem lc_kinds {i : Nat} {ρ : Rho} {k : List Nat} {ks : List Int} {Q : List D → Rho → Prop} (hk : kindO k = some ks) (hi : i < ρ.length) (hs : nb (slAt ρ i)) (hq : Q (ks.map D.int) ρ) :
    lcD (gNm i) tYesD (dCB fIntT (aCons (dVar i) aNil)) [i] (k.map fun c => D.str ⟨#[c]⟩) [] ρ Q := by
  unfold kindO at hk
  split at hk
  · rename_i hm
    cases hk
    have dg : ∀ k ∈ kindW, ∀ c ∈ k, c = 48 ∨ c = 49 ∨ c = 50 := by decide
    refine lc_map (f := fun d => .int (((strL d).headD 0 : Nat) - 48 : Int)) hi hs (fun d hd Qd hq => ?_) ?_
    · obtain ⟨c, hc, rfl⟩ := List.mem_map.mp hd
      have e : slAt (ρ.set i (.val (.str ⟨#[c]⟩))) i = .val (.str ⟨#[c]⟩) := by rw [slAt_set, if_pos ⟨rfl, hi⟩]
      have iv := int_dig c (dg k hm c hc)
      show dVar i _ (fun d ρ1 => fIntT [d] fun d => Qd d ρ1) (fun _ _ => False)
      rw [dVar_s, e]
      exact ⟨_, iv, (by decide : (1 : Nat) ≤ 640), hq⟩
    · rw [List.map_map]
      rw [List.map_map] at hq
      exact hq
  · cases hk
theorem cut73 {x1 x2 x3 x4 x5 x6 x7 : D} : cut [x1, x2, x3, x4, x5, x6, x7] (some 1) (some 4) = [x2, x3, x4] := rfl
theorem fen_of {f : List Nat} (h : f = [45] ∨ f = [48] ∨ f = [49]) : ∃ fv, fenO f = some fv ∧ ((f = [45] ∧ fv = none) ∨ (f ≠ [45] ∧ ∃ n, fv = some n ∧ PySem.intText? (SX.S f) = some n)) := by
  rcases h with rfl | rfl | rfl
  · exact ⟨none, rfl, .inl ⟨rfl, rfl⟩⟩
  · exact ⟨some 0, rfl, .inr ⟨by decide, 0, rfl, by decide +kernel⟩⟩
  · exact ⟨some 1, rfl, .inr ⟨by decide, 1, rfl, by decide +kernel⟩⟩
theorem fen_no {f : List Nat} (h : ¬ (f = [45] ∨ f = [48] ∨ f = [49])) : fenO f = none := by
  unfold fenO
  rw [if_neg fun z => h (.inl z), if_neg fun z => h (.inr (.inl z)), if_neg fun z => h (.inr (.inr z))]
theorem wayW_f {a b c f k p : List Nat} (h : fenO f = none ∨ kindO k = none ∨ keepO p = none) : wayW a b c f k p = none := by
  unfold wayW
  rcases h with h | h | h <;> rw [h] <;> split <;> first | rfl | (rename_i e1 e2 e3 e4 e5 e6; cases e4) | (rename_i e1 e2 e3 e4 e5 e6; cases e5) | (rename_i e1 e2 e3 e4 e5 e6; cases e6)
theorem pd_way6 {x y z f : Option Int} {ks : List Int} {b : Bool} (h : ks ∈ KS7) : pd (.tup [optD x, optD y, optD z, optD f, .tup (ks.map .int), .bl b]) := by
  have e : pdB 39 (.tup (ks.map .int)) = true := by
    simp only [pdB, List.length_map, Bool.and_eq_true, decide_eq_true_eq, List.all_eq_true]
    refine ⟨by have := (KS_nums _ h).1; omega, fun d hd => ?_⟩
    obtain ⟨i, _, rfl⟩ := List.mem_map.mp hd
    rfl
  show (decide _ && _) = true
  simp only [List.length_cons, List.length_nil, List.all_cons, List.all_nil, e, pdB_opt, Bool.and_true]
  rfl
theorem numO_some {low : Int} {a : List Nat} {v : Int} (h : numO low a = some v) : low ≤ v ∧ 0 ≤ v ∧ v ≤ 1000000000000000000000000000000 := by
  unfold numO at h
  split at h
  · rename_i z
    cases h
    exact ⟨z.2.1, valN_0 a, z.2.2⟩
  · cases h
theorem kindO_some {k : List Nat} {ks : List Int} (h : kindO k = some ks) : ks ∈ KS7 := by
  unfold kindO at h
  split at h
  · rename_i z
    cases h
    have key : ∀ k ∈ kindW, k.map (fun (c : Nat) => (c : Int) - 48) ∈ KS7 := by decide
    exact key k z
  · cases h
theorem fenO_some {f : List Nat} {v : Option Int} (h : fenO f = some v) : v = none ∨ v = some 0 ∨ v = some 1 := by
  unfold fenO at h
  split at h
  · cases h; exact .inl rfl
  · split at h
    · cases h; exact .inr (.inl rfl)
    · split at h
      · cases h; exact .inr (.inr rfl)
      · cases h
theorem isWay_6 (s n : Int) (d0 d1 d2 d3 d4 d5 : D) : isWay s n (.tup [d0, d1, d2, d3, d4, d5]) = (isWhole d0 0 1 && isWhole d1 0 (s - 1) && isWhole d2 0 s && (isNon d3 || isWhole d3 0 (n - 1)) && (isRising d4 2 && !eqD d4 (.tup [])) && isBl d5) := by
  have e : (List.range 6) = [0, 1, 2, 3, 4, 5] := rfl
  unfold isWay
  rw [e]
  simp [atD, isPart, Bool.and_assoc]
theorem rise7 : ∀ ks ∈ KS7, (isRising (.tup (ks.map .int)) 2 && !eqD (.tup (ks.map .int)) (.tup [])) = true := by decide
theorem whole_num {a : List Nat} {hi : Int} : isWhole (optD (numO 0 a)) 0 hi = match numO 0 a with
    | some v => decide (v ≤ hi)
    | none => false := by
  cases h : numO 0 a with
  | none => rfl
  | some v =>
    have := numO_some h
    show (decide (0 ≤ v) && decide (v ≤ hi)) = _
    rw [decide_eq_true this.1]
    rfl
/-- a way is given back, or none -/
theorem way_res {a b c f k p : List Nat} {fv : Option Int} {ks : List Int} {kp : Bool} (hf : fenO f = some fv) (hk : kindO k = some ks) (hp : keepO p = some kp) :
    (if isWay 1000000000000000000000000000000 2 (.tup [optD (numO 0 a), optD (numO 0 b), optD (numO 0 c), optD fv, .tup (ks.map .int), .bl kp]) = true then D.tup [optD (numO 0 a), optD (numO 0 b), optD (numO 0 c), optD fv, .tup (ks.map .int), .bl kp] else .non) = wayD (wayW a b c f k p) := by
  have h7 := rise7 ks (kindO_some hk)
  have hfe : (isNon (optD fv) || isWhole (optD fv) 0 (2 - 1)) = true := by
    rcases fenO_some hf with rfl | rfl | rfl <;> rfl
  rw [isWay_6, h7, hfe, whole_num, whole_num, whole_num]
  unfold wayW
  rw [hf, hk, hp]
  cases ha : numO 0 a with
  | none => rfl
  | some av =>
    cases hb : numO 0 b with
    | none => simp; rfl
    | some bv =>
      cases hc : numO 0 c with
      | none => simp; rfl
      | some cv =>
        have := numO_some hc
        by_cases h : av ≤ 1 ∧ bv < 1000000000000000000000000000000
        · have e : bv ≤ 1000000000000000000000000000000 - 1 := by omega
          have e2 : bv ≤ 999999999999999999999999999999 := by omega
          simp [h, e2, this, isBl, wayD, Wy.d, optD]
        · simp only [h, if_false]
          rw [if_neg]
          · rfl
          · simp only [Bool.and_eq_true, decide_eq_true_eq]
            omega
theorem B_way_of : Body t_way_of 8 1 F_way_of := Body.v fun ds Q E hh => by
  unfold S_way_of at hh
  split at hh
  · rename_i a
    obtain ⟨l, rfl, tx, hq⟩ := hh
    refine ⟨rfl, ?_⟩
    have bl : (SX.S l).length ≤ LIM := by rw [SX.S_len]; show _ ≤ 1000000; have := tx.1; omega
    have bl2 : l.length ≤ LIM := by show _ ≤ 1000000; have := tx.1; omega
    have ok := spl_ok (c := 32) tx
    unfold t_way_of
    simp [spl_sp, bl, SX.S_len]
    unfold wayO at hq
    generalize sp1 32 l = ws at *
    refine ⟨⟨by rw [s_sp]; decide, bl2⟩, ?_⟩
    match ws, ok, hq with
    | [], _, hq => exact .inr ⟨by simp, hq⟩
    | [_], _, hq => exact .inr ⟨by simp, hq⟩
    | [_, _], _, hq => exact .inr ⟨by simp, hq⟩
    | [_, _, _], _, hq => exact .inr ⟨by simp, hq⟩
    | [_, _, _, _], _, hq => exact .inr ⟨by simp, hq⟩
    | [_, _, _, _, _], _, hq => exact .inr ⟨by simp, hq⟩
    | [_, _, _, _, _, _], _, hq => exact .inr ⟨by simp, hq⟩
    | _ :: _ :: _ :: _ :: _ :: _ :: _ :: _ :: _, _, hq => exact .inr ⟨by simp; omega, hq⟩
    | [w, a, b, c, f, k, p], ok, hq =>
      have okS : ∀ x ∈ [w, a, b, c, f, k, p], PyData.strOk (SX.S x) = true := fun x hx => sok_T (ok x hx).2
      have sw := okS w (by simp)
      have sf := okS f (by simp)
      have sk := okS k (by simp)
      have sp := okS p (by simp)
      have t1 : PyData.strOk (SX.S wWay) = true := sok_way
      have t2 : PyData.strOk (SX.S [45]) = true := sok_S (by decide)
      have a6 : atI [D.str (SX.S w), D.str (SX.S a), D.str (SX.S b), D.str (SX.S c), D.str (SX.S f), D.str (SX.S k), D.str (SX.S p)] 6 = some (.str (SX.S p)) := rfl
      simp [s_way, s_d0, s_d1, s_d2, s_d01, s_d02, s_d12, s_d012, s_kept, s_free, s_no, S_iff, SX.S_beq_eq, sw, sf, sk, sp, t1, t2, a6]
      by_cases hw : w = wWay
      · refine .inl ⟨hw, ?_⟩
        simp only [if_pos hw] at hq
        by_cases hk : k ∈ kindW
        · refine .inl ⟨by simp only [kindW, List.mem_cons, List.not_mem_nil, or_false] at hk; rcases hk with rfl | rfl | rfl | rfl | rfl | rfl | rfl <;> simp, ?_⟩
          obtain ⟨ks, ek⟩ : ∃ ks, kindO k = some ks := ⟨_, if_pos hk⟩
          have kl : k.length ≤ LIM := by
            have key : ∀ k ∈ kindW, k.length ≤ 3 := by decide
            have := key k hk
            show _ ≤ 1000000
            omega
          by_cases hp : p = wKept ∨ p = wFree
          · refine .inl ⟨hp.imp (fun e => e.symm) fun e => e.symm, ?_⟩
            have ep : keepO p = some (decide (p = wKept)) := by
              rcases hp with rfl | rfl
              · rfl
              · rfl
            by_cases hf : f = [45] ∨ f = [48] ∨ f = [49]
            · refine .inl ⟨by rcases hf with rfl | rfl | rfl <;> simp, ?_⟩
              obtain ⟨fv, ef, hn⟩ := fen_of hf
              have fl : (SX.S f).length ≤ 640 := by rcases hf with rfl | rfl | rfl <;> decide
              rw [← way_res ef ek ep] at hq
              have pw := @pd_way6 (numO 0 a) (numO 0 b) (numO 0 c) fv ks (decide (p = wKept)) (kindO_some ek)
              have oka := ok a (by simp)
              have okb := ok b (by simp)
              have okc := ok c (by simp)
              rcases hn with ⟨h45, rfl⟩ | ⟨h45, n, rfl, hn⟩
              · refine .inr ⟨h45, kl, lc_kinds ek (by simp) trivial ?_⟩
                simp [cut73]
                refine lc_map (f := fun d => optD (numO 0 (strL d))) (by simp) trivial (fun d hd Qd hq => ?_) ?_
                · obtain ⟨x, hx, rfl⟩ : ∃ x, TxO x ∧ d = .str (SX.S x) := by
                    simp only [List.mem_cons, List.not_mem_nil, or_false] at hd
                    rcases hd with rfl | rfl | rfl
                    · exact ⟨_, oka, rfl⟩
                    · exact ⟨_, okb, rfl⟩
                    · exact ⟨_, okc, rfl⟩
                  simp [F_number_of]
                  exact ⟨x, rfl, hx, by decide, hq⟩
                · simp [strL, sp]
                  refine ⟨.str (SX.S p), a6, ⟨sp, sok_S (by decide)⟩, ?_⟩
                  rw [show eqD (.str (SX.S p)) (.str (SX.S wKept)) = decide (p = wKept) by rw [eqD_ss, SX.S_beq_eq]]
                  refine ⟨pw, ?_⟩
                  by_cases hw2 : isWay 1000000000000000000000000000000 2 (.tup [optD (numO 0 a), optD (numO 0 b), optD (numO 0 c), optD none, .tup (ks.map .int), .bl (decide (p = wKept))]) = true
                  · rw [if_pos hw2] at hq
                    exact .inr ⟨hw2, hq⟩
                  · rw [if_neg hw2] at hq
                    exact .inl ⟨Bool.eq_false_iff.mpr hw2, hq⟩
              · refine .inl ⟨h45, n, hn, fl, kl, lc_kinds ek (by simp) trivial ?_⟩
                simp [cut73]
                refine lc_map (f := fun d => optD (numO 0 (strL d))) (by simp) trivial (fun d hd Qd hq => ?_) ?_
                · obtain ⟨x, hx, rfl⟩ : ∃ x, TxO x ∧ d = .str (SX.S x) := by
                    simp only [List.mem_cons, List.not_mem_nil, or_false] at hd
                    rcases hd with rfl | rfl | rfl
                    · exact ⟨_, oka, rfl⟩
                    · exact ⟨_, okb, rfl⟩
                    · exact ⟨_, okc, rfl⟩
                  simp [F_number_of]
                  exact ⟨x, rfl, hx, by decide, hq⟩
                · simp [strL, sp]
                  refine ⟨.str (SX.S p), a6, ⟨sp, sok_S (by decide)⟩, ?_⟩
                  rw [show eqD (.str (SX.S p)) (.str (SX.S wKept)) = decide (p = wKept) by rw [eqD_ss, SX.S_beq_eq]]
                  refine ⟨pw, ?_⟩
                  by_cases hw2 : isWay 1000000000000000000000000000000 2 (.tup [optD (numO 0 a), optD (numO 0 b), optD (numO 0 c), optD (some n), .tup (ks.map .int), .bl (decide (p = wKept))]) = true
                  · rw [if_pos hw2] at hq
                    exact .inr ⟨hw2, hq⟩
                  · rw [if_neg hw2] at hq
                    exact .inl ⟨Bool.eq_false_iff.mpr hw2, hq⟩
            · rw [wayW_f (.inl (fen_no hf))] at hq
              exact .inr ⟨⟨fun z => hf (.inl z.symm), fun z => hf (.inr (.inl z.symm)), fun z => hf (.inr (.inr z.symm))⟩, hq⟩
          · rw [wayW_f (.inr (.inr (by unfold keepO; rw [if_neg fun z => hp (.inl z), if_neg fun z => hp (.inr z)])))] at hq
            exact .inr ⟨⟨fun z => hp (.inl z.symm), fun z => hp (.inr z.symm)⟩, hq⟩
        · rw [wayW_f (.inr (.inl (if_neg hk)))] at hq
          refine .inr ⟨?_, hq⟩
          simp only [kindW, List.mem_cons, List.not_mem_nil, or_false, not_or] at hk
          obtain ⟨h1, h2, h3, h4, h5, h6, h7⟩ := hk
          exact ⟨fun z => h1 z.symm, fun z => h2 z.symm, fun z => h3 z.symm, fun z => h4 z.symm, fun z => h5 z.symm, fun z => h6 z.symm, fun z => h7 z.symm⟩
      · simp only [if_neg hw] at hq
        exact .inr ⟨hw, hq⟩
  · exact hh.elim
def szW : List (List Nat) → Option Int
  | [w, a] => if w = wSize then numO 1 a else none
  | _ => none
def wyW : List (List Nat) → Option Wy
  | [w, a, b, c, f, k, p] => if w = wWay then wayW a b c f k p else none
  | _ => none
theorem sizeO_w (l : List Nat) : sizeO l = szW (sp1 32 l) := rfl
theorem wayO_w (l : List Nat) : wayO l = wyW (sp1 32 l) := rfl
theorem lineD_w (l : List Nat) : lineD l = match szW (sp1 32 l) with
    | some n => .int n
    | none => wayD (wyW (sp1 32 l)) := rfl
theorem ws_cases (ws : List (List Nat)) : (∃ w a, ws = [w, a]) ∨ (∃ w a b c f k p, ws = [w, a, b, c, f, k, p]) ∨ (ws.length ≠ 2 ∧ ws.length ≠ 7) := by
  by_cases h2 : ws.length = 2
  · match ws, h2 with
    | [w, a], _ => exact .inl ⟨w, a, rfl⟩
  · by_cases h7 : ws.length = 7
    · match ws, h7 with
      | [w, a, b, c, f, k, p], _ => exact .inr (.inl ⟨w, a, b, c, f, k, p, rfl⟩)
    · exact .inr (.inr ⟨h2, h7⟩)
theorem szW_no {ws : List (List Nat)} (h : ws.length ≠ 2) : szW ws = none := by
  unfold szW
  split
  · exact absurd rfl h
  · rfl
theorem wyW_no {ws : List (List Nat)} (h : ws.length ≠ 7) : wyW ws = none := by
  unfold wyW
  split
  · exact absurd rfl h
  · rfl
theorem B_law_line_of : Body t_law_line_of 8 1 F_law_line_of := Body.v fun ds Q E hh => by
  unfold S_law_line_of at hh
  split at hh
  · rename_i a
    obtain ⟨l, rfl, tx, hq⟩ := hh
    refine ⟨rfl, ?_⟩
    have bl : (SX.S l).length ≤ LIM := by rw [SX.S_len]; show _ ≤ 1000000; have := tx.1; omega
    have bl2 : l.length ≤ LIM := by show _ ≤ 1000000; have := tx.1; omega
    have ok := spl_ok (c := 32) tx
    have t1 : PyData.strOk (SX.S wWay) = true := sok_way
    have t3 : PyData.strOk (SX.S wSize) = true := sok_size
    have t2 : PyData.strOk (SX.S [45]) = true := sok_S (by decide)
    have cnt : ((sp1 32 l).length : Int) ≤ LIM := by rw [spl_count]; show _ ≤ ((1000000 : Nat) : Int); have := tx.1; have := List.count_le_length (a := 32) (l := l); omega
    unfold t_law_line_of
    simp [spl_sp, bl, SX.S_len, F_law_number]
    rw [lineD_w] at hq
    generalize sp1 32 l = ws at *
    refine ⟨⟨by rw [s_sp]; decide, bl2⟩, ?_⟩
    rcases ws_cases ws with ⟨w, a, rfl⟩ | ⟨w, a, b, c, f, k, p, rfl⟩ | ⟨h2, h7⟩
    · have s0 : PyData.strOk (Str.ofString "size") = true := by rw [s_size]; exact sok_size
      simp [sok_T (ok w (by simp)).2, s0]
      rw [s_size, S_iff]
      by_cases hw : w = wSize
      · refine .inr ⟨hw, a, rfl, ok a (by simp), ?_⟩
        rw [show szW [w, a] = numO 1 a from if_pos hw] at hq
        cases h : numO 0 a with
        | none =>
          rw [show numO 1 a = none from if_neg fun z => by
            rw [show numO 0 a = some (valN a) from if_pos ⟨z.1, valN_0 a, z.2.2⟩] at h
            cases h] at hq
          exact ⟨rfl, .inr ⟨rfl, hq⟩⟩
        | some v =>
          have h1 : canon a = true ∧ 0 ≤ valN a ∧ valN a ≤ 1000000000000000000000000000000 := by
            unfold numO at h
            split at h
            · assumption
            · cases h
          rw [show numO 0 a = some (valN a) from if_pos h1] at h
          cases h
          refine ⟨rfl, ?_⟩
          by_cases hv : valN a = 0
          · rw [show numO 1 a = none from if_neg fun z => by omega] at hq
            exact .inl ⟨by rw [hv]; rfl, hq⟩
          · rw [show numO 1 a = some (valN a) from if_pos ⟨h1.1, by omega, h1.2.2⟩] at hq
            exact .inr ⟨by simp [optD, hv], hq⟩
      · rw [show szW [w, a] = none from if_neg hw] at hq
        exact .inl ⟨hw, hq⟩
    · rw [szW_no (by simp)] at hq
      have okS : ∀ x ∈ [w, a, b, c, f, k, p], PyData.strOk (SX.S x) = true := fun x hx => sok_T (ok x hx).2
      have sw := okS w (by simp)
      have sf := okS f (by simp)
      have sk := okS k (by simp)
      have sp := okS p (by simp)
      have a6 : atI [D.str (SX.S w), D.str (SX.S a), D.str (SX.S b), D.str (SX.S c), D.str (SX.S f), D.str (SX.S k), D.str (SX.S p)] 6 = some (.str (SX.S p)) := rfl
      simp [s_way, s_d0, s_d1, s_d2, s_d01, s_d02, s_d12, s_d012, s_kept, s_free, s_no, S_iff, SX.S_beq_eq, sw, sf, sk, sp, t1, t2, a6]
      by_cases hw : w = wWay
      · refine .inl ⟨hw, ?_⟩
        rw [show wyW [w, a, b, c, f, k, p] = wayW a b c f k p from if_pos hw] at hq
        by_cases hf : f = [45] ∨ f = [48] ∨ f = [49]
        · refine .inl ⟨by rcases hf with rfl | rfl | rfl <;> simp, ?_⟩
          by_cases hk : k ∈ kindW
          · refine .inl ⟨by simp only [kindW, List.mem_cons, List.not_mem_nil, or_false] at hk; rcases hk with rfl | rfl | rfl | rfl | rfl | rfl | rfl <;> simp, ?_⟩
            obtain ⟨ks, ek⟩ : ∃ ks, kindO k = some ks := ⟨_, if_pos hk⟩
            have kl : k.length ≤ LIM := by
              have key : ∀ k ∈ kindW, k.length ≤ 3 := by decide
              have := key k hk
              show _ ≤ 1000000
              omega
            by_cases hp : p = wKept ∨ p = wFree
            · have ep : keepO p = some (decide (p = wKept)) := by
                rcases hp with rfl | rfl
                · rfl
                · rfl
              obtain ⟨fv, ef, hn⟩ := fen_of hf
              have fl : (SX.S f).length ≤ 640 := by rcases hf with rfl | rfl | rfl <;> decide
              have oka := ok a (by simp)
              have okb := ok b (by simp)
              have okc := ok c (by simp)
              unfold wayW at hq
              rw [ef, ek, ep] at hq
              refine .inl ⟨hp.imp (fun e => e.symm) fun e => e.symm, ?_⟩
              rw [cut73]
              refine ⟨by show 3 ≤ 1000000; omega, ?_⟩
              refine lc_map (f := fun d => optD (numO 0 (strL d))) (by simp) trivial (fun d hd Qd hq => ?_) ?_
              · obtain ⟨x, hx, rfl⟩ : ∃ x, TxO x ∧ d = .str (SX.S x) := by
                  simp only [List.mem_cons, List.not_mem_nil, or_false] at hd
                  rcases hd with rfl | rfl | rfl
                  · exact ⟨_, oka, rfl⟩
                  · exact ⟨_, okb, rfl⟩
                  · exact ⟨_, okc, rfl⟩
                simp
                exact ⟨x, rfl, hx, hq⟩
              · simp [strL, sp, sf]
                cases ha : numO 0 a with
                | none =>
                  rw [ha] at hq
                  exact .inr ⟨.inl rfl, hq⟩
                | some av =>
                  cases hb : numO 0 b with
                  | none =>
                    rw [ha, hb] at hq
                    exact .inr ⟨.inr (.inl rfl), hq⟩
                  | some bv =>
                    cases hc : numO 0 c with
                    | none =>
                      rw [ha, hb, hc] at hq
                      exact .inr ⟨.inr (.inr rfl), hq⟩
                    | some cv =>
                      rw [ha, hb, hc] at hq
                      have nb := numO_some hb
                      refine .inl ⟨⟨rfl, rfl, rfl⟩, ?_⟩
                      simp [optD]
                      have hq3 : Q (wayD (if av ≤ 1 ∧ bv < 1000000000000000000000000000000 then some (Wy.mk av bv cv fv ks (decide (p = wKept))) else none)) := hq
                      by_cases h1 : av ≤ 1
                      · refine .inl ⟨h1, ?_⟩
                        by_cases h2 : bv < 1000000000000000000000000000000
                        · rw [if_pos ⟨h1, h2⟩] at hq3
                          refine .inl ⟨by omega, ?_⟩
                          have e6 : eqD (.str (SX.S p)) (.str (SX.S wKept)) = decide (p = wKept) := by rw [eqD_ss, SX.S_beq_eq]
                          have sK : PyData.strOk (SX.S wKept) = true := sok_S (by decide)
                          rcases hn with ⟨h45, rfl⟩ | ⟨h45, n, rfl, hn⟩
                          · refine .inr ⟨h45, kl, lc_kinds ek (by simp) trivial ?_⟩
                            simp
                            refine ⟨.str (SX.S p), a6, ⟨sp, sK⟩, ?_⟩
                            rw [e6]
                            exact hq3
                          · refine .inl ⟨h45, n, hn, fl, kl, lc_kinds ek (by simp) trivial ?_⟩
                            simp
                            refine ⟨.str (SX.S p), a6, ⟨sp, sK⟩, ?_⟩
                            rw [e6]
                            exact hq3
                        · rw [if_neg fun z => h2 z.2] at hq3
                          exact .inr ⟨by omega, hq3⟩
                      · rw [if_neg fun z => h1 z.1] at hq3
                        exact .inr ⟨by omega, hq3⟩
            · rw [wayW_f (.inr (.inr (by unfold keepO; rw [if_neg fun z => hp (.inl z), if_neg fun z => hp (.inr z)])))] at hq
              exact .inr ⟨⟨fun z => hp (.inl z.symm), fun z => hp (.inr z.symm)⟩, hq⟩
          · rw [wayW_f (.inr (.inl (if_neg hk)))] at hq
            refine .inr ⟨?_, hq⟩
            simp only [kindW, List.mem_cons, List.not_mem_nil, or_false, not_or] at hk
            obtain ⟨h1, h2, h3, h4, h5, h6, h7⟩ := hk
            exact ⟨fun z => h1 z.symm, fun z => h2 z.symm, fun z => h3 z.symm, fun z => h4 z.symm, fun z => h5 z.symm, fun z => h6 z.symm, fun z => h7 z.symm⟩
        · rw [wayW_f (.inl (fen_no hf))] at hq
          exact .inr ⟨⟨fun z => hf (.inl z.symm), fun z => hf (.inr (.inl z.symm)), fun z => hf (.inr (.inr z.symm))⟩, hq⟩
      · rw [show wyW [w, a, b, c, f, k, p] = none from if_neg hw] at hq
        exact .inr ⟨hw, hq⟩
    · rw [szW_no h2, wyW_no h7] at hq
      exact .inl ⟨by omega, .inr ⟨by omega, hq⟩⟩
  · exact hh.elim
theorem due_bad {l : List Nat} {n : Nat} (h : badAt 0 (sp1 10 l) = some n) : dueD l = .int (n : Nat) := by
  unfold dueD
  rw [h]
theorem due_no {l : List Nat} (h : badAt 0 (sp1 10 l) = none) : dueD l = if hasHouse (houseO (sp1 10 l)) = true then houseO (sp1 10 l) else .int ((sp1 10 l).length + 1 : Nat) := by
  unfold dueD
  rw [h]
theorem bad_step {i : Nat} {x : List Nat} {ls : List (List Nat)} : badAt i (x :: ls) = if isNon (lineD x) = true then some (i + 1) else badAt (i + 1) ls := rfl
theorem bad_drop {ls : List (List Nat)} {i : Nat} {x : List Nat} (hx : ls[i]? = some x) : badAt i (ls.drop i) = if isNon (lineD x) = true then some (i + 1) else badAt (i + 1) (ls.drop (i + 1)) := by
  obtain ⟨hi, rfl⟩ := List.getElem?_eq_some_iff.mp hx
  rw [List.drop_eq_getElem_cons hi, bad_step]
theorem line_non {x : List Nat} : isNon (lineD x) = true ↔ sizeO x = none ∧ wayO x = none := by
  unfold lineD
  cases sizeO x with
  | some n => simp [isNon]
  | none =>
    cases wayO x with
    | none => simp [isNon, wayD]
    | some w => simp [isNon, wayD, Wy.d]
theorem size_int {x : List Nat} {n : Int} (h : sizeO x = some n) : 1 ≤ n ∧ n ≤ 1000000000000000000000000000000 := by
  unfold sizeO at h
  split at h
  · split at h
    · have := numO_some h
      omega
    · cases h
  · cases h
theorem way_wr {x : List Nat} {w : Wy} (h : wayO x = some w) : WrW w := by
  unfold wayO at h
  split at h
  · split at h
    · unfold wayW at h
      split at h
      · rename_i e1 e2 e3 e4 e5 e6
        split at h
        · rename_i hz
          cases h
          have a := numO_some e1
          have b := numO_some e2
          have c := numO_some e3
          exact ⟨by simp; omega, by simp; omega, by simp; omega, fun f e => by
            rcases fenO_some e4 with q | q | q <;> rw [q] at e <;> cases e <;> decide, kindO_some e5⟩
        · cases h
      · cases h
    · cases h
  · cases h
theorem wayD_pd (x : List Nat) : pd (wayD (wayO x)) := by
  cases h : wayO x with
  | none => rfl
  | some w => exact pd_wayT (by have := (KS_nums _ (way_wr h).kinds).1; omega)
theorem pdB39_wayD (x : List Nat) : pdB 38 (wayD (wayO x)) = true := by
  cases h : wayO x with
  | none => rfl
  | some w =>
    have e : pdB 37 (.tup (w.kinds.map .int)) = true := by
      simp only [pdB, List.length_map, Bool.and_eq_true, decide_eq_true_eq, List.all_eq_true]
      refine ⟨by have := (KS_nums _ (way_wr h).kinds).1; omega, fun d hd => ?_⟩
      obtain ⟨i, _, rfl⟩ := List.mem_map.mp hd
      rfl
    show (decide _ && _) = true
    simp only [List.length_cons, List.length_nil, List.all_cons, List.all_nil, e, pdB_opt, Bool.and_true]
    rfl
theorem house_pd {ls : List (List Nat)} (h : ls.length ≤ 200) : pd (houseO ls) := by
  have e : pdB 39 (.tup (ls.tail.map fun l => wayD (wayO l))) = true := by
    simp only [pdB, List.length_map, Bool.and_eq_true, decide_eq_true_eq, List.all_eq_true, List.length_tail]
    refine ⟨by omega, fun d hd => ?_⟩
    obtain ⟨x, _, rfl⟩ := List.mem_map.mp hd
    exact pdB39_wayD x
  show (decide _ && _) = true
  simp only [List.length_cons, List.length_nil, List.all_cons, List.all_nil, e, pdB_opt, Bool.and_true]
  rfl
def InvRo (ls : List (List Nat)) (s0 s1 : Sl) (i : Nat) (s : Rho) : Prop := (∃ x3 x4, s = [s0, s1, .no, x3, x4] ∧ nb x3 ∧ nb x4 ∧ x4.held = none) ∧ badAt 0 ls = badAt i (ls.drop i)
theorem enum_get {ds : List D} {i : Nat} {d : D} (h : (enumD ds)[i]? = some d) : ∃ y, ds[i]? = some y ∧ d = .tup [.int (i : Nat), y] := by
  unfold enumD at h
  rw [List.getElem?_mapIdx] at h
  obtain ⟨y, hy, rfl⟩ := Option.map_eq_some_iff.mp h
  exact ⟨y, hy, by rw [Int.zero_add]⟩
theorem isNon_opt {x : Option Int} : isNon (optD x) = x.isNone := by cases x <;> rfl
theorem isNon_way {x : Option Wy} : isNon (wayD x) = x.isNone := by cases x <;> rfl
theorem B_read_house : Body t_read_house 5 1 F_read_house := Body.v fun ds Q E hh => by
  unfold S_read_house at hh
  split at hh
  · rename_i d0
    rcases hh with ⟨l, rfl, tx, hq⟩ | ⟨ht, he⟩
    · refine ⟨rfl, ?_⟩
      have bl2 : l.length ≤ LIM := by show _ ≤ 1000000; have := tx.1.1; omega
      have ti : isTy (D.str (SX.S l)) "str" = some true := rfl
      have ok := spl_ok (c := 10) tx.1
      have cnt : (sp1 10 l).length ≤ 101 := by rw [spl_count]; have := tx.2; omega
      have cnt1 : 1 ≤ (sp1 10 l).length := by rw [spl_count]; omega
      unfold t_read_house
      simp [spl_nl, SX.S_len, bl2, ti, F_size_of, F_way_of]
      refine ⟨by rw [s_nl]; decide, ?_⟩
      have hb := @due_bad l
      have hn := @due_no l
      generalize sp1 10 l = ls at *
      refine forD_ix (InvRo ls _ _) ⟨⟨_, _, rfl, trivial, trivial, rfl⟩, rfl⟩ ?_ ?_
      · rintro i d s hi ⟨⟨x3, x4, rfl, n3, n4, hh4⟩, hbad⟩
        obtain ⟨y, hy, rfl⟩ := enum_get hi
        rw [List.getElem?_map] at hy
        obtain ⟨x, hx, rfl⟩ := Option.map_eq_some_iff.mp hy
        have hxm := List.mem_of_getElem? hx
        rw [bad_drop hx] at hbad
        simp [n3, n4]
        refine ⟨x, rfl, ok x hxm, ?_⟩
        simp only [isNon_opt]
        cases hs : sizeO x with
        | some n =>
          refine .inl ⟨rfl, ⟨_, _, rfl, trivial, trivial, rfl⟩, ?_⟩
          rw [hbad, if_neg fun z => by rw [(line_non.mp z).1] at hs; cases hs]
        | none =>
          refine .inr ⟨rfl, x, rfl, ok x hxm, ?_⟩
          simp only [isNon_way]
          cases hw : wayO x with
          | some n =>
            refine .inl ⟨rfl, ⟨_, _, rfl, trivial, trivial, rfl⟩, ?_⟩
            rw [hbad, if_neg fun z => by rw [(line_non.mp z).2] at hw; cases hw]
          | none =>
            refine .inr ⟨rfl, ?_⟩
            rw [if_pos (line_non.mpr ⟨hs, hw⟩)] at hbad
            have hd := hb hbad
            rcases hq with ⟨n, e1, e2⟩ | ⟨e1, _⟩
            · rw [hd] at e1
              cases e1
              exact e2
            · rw [hd] at e1
              cases e1
      · rintro s ⟨⟨x3, x4, rfl, n3, n4, hh4⟩, hbad⟩
        have hbad2 : badAt 0 ls = none := by
          rw [hbad]
          have e : ls.drop (enumD ((ls.map SX.S).map D.str)).length = [] := List.drop_eq_nil_of_le (by simp [enumD])
          first
          | rw [e]; rfl
          | (simp [enumD]; rfl)
        have hd := hn hbad2
        cases ls with
        | nil => simp at cnt1
        | cons y r =>
          simp
          refine ⟨y, rfl, ok y (by simp), hh4, ⟨by show _ ≤ 1000000; simp at cnt; omega, hh4⟩, ?_⟩
          refine lc_map (f := fun d => wayD (wayO (strL d))) (by simp) n4 (fun d hd Qd hq => ?_) ?_
          · obtain ⟨x, hx, rfl⟩ := List.mem_map.mp hd
            simp
            exact ⟨x, rfl, ok x (by simp [hx]), hq⟩
          · have em : ((r.map (D.str ∘ SX.S)).map fun d => wayD (wayO (strL d))) = r.map fun x => wayD (wayO x) := by
              rw [List.map_map]
              exact List.map_congr_left fun x _ => rfl
            rw [em]
            have hp := house_pd (ls := y :: r) (by simp at cnt ⊢; omega)
            simp
            refine ⟨hp, ?_⟩
            by_cases hh : hasHouse (houseO (y :: r)) = true
            · rw [if_pos hh] at hd
              rcases hq with ⟨n, e1, _⟩ | ⟨_, e2⟩
              · rw [hd] at e1
                cases e1
              · rw [hd] at e2
                exact .inr ⟨hh, e2⟩
            · rw [if_neg hh] at hd
              rcases hq with ⟨n, e1, e2⟩ | ⟨e1, _⟩
              · rw [hd] at e1
                cases e1
                exact .inl ⟨Bool.eq_false_iff.mpr hh, e2⟩
              · rw [hd] at e1
                cases e1
    · refine ⟨rfl, ?_⟩
      unfold t_read_house
      simp [ht]
      exact he
  · exact hh.elim
theorem due_cases (l : List Nat) : (∃ n : Int, dueD l = .int n) ∨ isTup (dueD l) = true := by
  cases h : badAt 0 (sp1 10 l) with
  | some n => exact .inl ⟨_, due_bad h⟩
  | none =>
    rw [due_no h]
    by_cases hh : hasHouse (houseO (sp1 10 l)) = true
    · rw [if_pos hh]
      exact .inr rfl
    · rw [if_neg hh]
      exact .inl ⟨_, rfl⟩
theorem B_law_read_so : Body t_law_read_so 2 1 F_law_read_so := Body.v fun ds Q E hh => by
  unfold S_law_read_so at hh
  split at hh
  · rename_i d0
    refine ⟨rfl, ?_⟩
    unfold t_law_read_so
    simp [F_read_house]
    rcases hh with ⟨l, rfl, tx, hq⟩ | ⟨ht, hq⟩
    · refine .inl ⟨l, rfl, tx, ?_⟩
      rcases due_cases l with ⟨n, e⟩ | e
      · rw [e] at hq ⊢
        exact .inl ⟨n, rfl, rfl, n, rfl, hq⟩
      · exact .inr ⟨e, hq⟩
    · exact .inr ⟨ht, rfl, 0, rfl, hq⟩
  · exact hh.elim
theorem B_law_is_whole : Body t_law_is_whole 3 3 F_law_is_whole := Body.v fun ds Q E h => by
  unfold S_is_whole at h
  split at h
  · rename_i v lo hi
    obtain ⟨ok, h⟩ := h
    refine ⟨rfl, ?_⟩
    unfold t_law_is_whole
    cases v <;> simp [isTy_int ok, isTy_bool ok, isBl, isInt, isWhole] at h ⊢
    all_goals first | exact h | skip
    rename_i i
    by_cases q : lo ≤ i
    · right
      simpa [q] using h
    · left
      simp [q] at h
      exact ⟨by omega, h⟩
  · exact h.elim
theorem B_law_kinds_good : Body t_law_kinds_good 2 1 F_law_kinds_good := Body.v fun ds Q E hh => by
  unfold S_law_kinds_good at hh
  split at hh
  · obtain ⟨ks, hk, rfl, hq⟩ := hh
    refine ⟨rfl, ?_⟩
    unfold t_law_kinds_good
    simp only [KS7, List.mem_cons, List.not_mem_nil, or_false] at hk
    rcases hk with rfl | rfl | rfl | rfl | rfl | rfl | rfl
    · simp [isTup, wipeR, bakR, lcD, isWhole]
      exact .inr ⟨rfl, [0], rfl, by decide, by decide, Eq.mp (congrArg (fun b => Q (.bl b)) (by decide)) hq⟩
    · simp [isTup, wipeR, bakR, lcD, isWhole]
      exact .inr ⟨rfl, [1], rfl, by decide, by decide, Eq.mp (congrArg (fun b => Q (.bl b)) (by decide)) hq⟩
    · simp [isTup, wipeR, bakR, lcD, isWhole]
      exact .inr ⟨rfl, [2], rfl, by decide, by decide, Eq.mp (congrArg (fun b => Q (.bl b)) (by decide)) hq⟩
    · simp [isTup, wipeR, bakR, lcD, isWhole]
      exact .inr ⟨rfl, [0, 1], rfl, by decide, by decide, Eq.mp (congrArg (fun b => Q (.bl b)) (by decide)) hq⟩
    · simp [isTup, wipeR, bakR, lcD, isWhole]
      exact .inr ⟨rfl, [0, 2], rfl, by decide, by decide, Eq.mp (congrArg (fun b => Q (.bl b)) (by decide)) hq⟩
    · simp [isTup, wipeR, bakR, lcD, isWhole]
      exact .inr ⟨rfl, [1, 2], rfl, by decide, by decide, Eq.mp (congrArg (fun b => Q (.bl b)) (by decide)) hq⟩
    · simp [isTup, wipeR, bakR, lcD, isWhole]
      exact .inr ⟨rfl, [0, 1, 2], rfl, by decide, by decide, Eq.mp (congrArg (fun b => Q (.bl b)) (by decide)) hq⟩
  · exact hh.elim
theorem pn10 : ¬ Str.ofString "start" = Str.ofString "word" := by decide
theorem pn20 : ¬ Str.ofString "share" = Str.ofString "word" := by decide
theorem pn21 : ¬ Str.ofString "share" = Str.ofString "start" := by decide
theorem pn30 : ¬ Str.ofString "fence" = Str.ofString "word" := by decide
theorem pn31 : ¬ Str.ofString "fence" = Str.ofString "start" := by decide
theorem pn32 : ¬ Str.ofString "fence" = Str.ofString "share" := by decide
theorem pn40 : ¬ Str.ofString "kinds" = Str.ofString "word" := by decide
theorem pn41 : ¬ Str.ofString "kinds" = Str.ofString "start" := by decide
theorem pn42 : ¬ Str.ofString "kinds" = Str.ofString "share" := by decide
theorem pn43 : ¬ Str.ofString "kinds" = Str.ofString "fence" := by decide
theorem pn50 : ¬ Str.ofString "keeps" = Str.ofString "word" := by decide
theorem pn51 : ¬ Str.ofString "keeps" = Str.ofString "start" := by decide
theorem pn52 : ¬ Str.ofString "keeps" = Str.ofString "share" := by decide
theorem pn53 : ¬ Str.ofString "keeps" = Str.ofString "fence" := by decide
theorem pn54 : ¬ Str.ofString "keeps" = Str.ofString "kinds" := by decide
theorem B_law_good_part : Body t_law_good_part 4 4 F_law_good_part := Body.v fun ds Q E hh => by
  unfold S_law_good_part at hh
  split at hh
  · rename_i size number name v
    obtain ⟨w, i, g, hi, rfl, rfl, hq⟩ := hh
    refine ⟨rfl, ?_⟩
    unfold t_law_good_part
    match i, hi, hq with
    | 0, _, hq =>
      have hq' : Q (.bl (isWhole (.int w.word) 0 1)) := hq
      simp [Wy.ps, atD, PL]
      exact hq'
    | 1, _, hq =>
      have hq' : Q (.bl (isWhole (.int w.start) 0 (size - 1))) := hq
      simp [Wy.ps, atD, PL]
      exact .inl ⟨pn10, hq'⟩
    | 2, _, hq =>
      have hq' : Q (.bl (isWhole (.int w.share) 0 size)) := hq
      simp [Wy.ps, atD, PL]
      exact .inl ⟨pn20, .inl ⟨pn21, hq'⟩⟩
    | 3, _, hq =>
      have hq' : Q (.bl (isNon (optD w.fence) || isWhole (optD w.fence) 0 (number - 1))) := hq
      simp [Wy.ps, atD, PL]
      refine .inl ⟨pn30, .inl ⟨pn31, .inl ⟨pn32, ?_⟩⟩⟩
      cases hf : w.fence with
      | none =>
        rw [hf] at hq'
        exact .inr ⟨rfl, hq'⟩
      | some f =>
        rw [hf] at hq'
        exact .inl ⟨rfl, rfl, hq'⟩
    | 4, _, hq =>
      have hq' : Q (.bl (isRising (.tup (w.kinds.map .int)) 2 && !eqD (.tup (w.kinds.map .int)) (.tup []))) := hq
      simp [Wy.ps, atD, PL]
      refine .inl ⟨pn40, .inl ⟨pn41, .inl ⟨pn42, .inl ⟨pn43, ?_⟩⟩⟩⟩
      exact ⟨w.kinds, g.kinds, rfl, Eq.mp (congrArg (fun b => Q (.bl b)) (rise7 _ g.kinds)) hq'⟩
    | 5, _, hq =>
      have hq' : Q (.bl (isBl (.bl w.keeps))) := hq
      simp [Wy.ps, atD, PL]
      exact .inl ⟨pn50, .inl ⟨pn51, .inl ⟨pn52, .inl ⟨pn53, .inl ⟨pn54, .inr ⟨rfl, hq'⟩⟩⟩⟩⟩⟩
  · exact hh.elim
theorem rowOk_pd {x : D} (h : rowOk x) : pd x := by
  rcases h with ⟨n, _, rfl⟩ | ⟨w, g, rfl⟩
  · rfl
  · exact pd_wayT (by have := (KS_nums _ g.kinds).1; omega)
theorem isTy_wd {w : Wy} : isTy w.d "tuple" = some true := rfl
def InvIh (n : Int) (ds : List D) (d : D) (i : Nat) (s : Rho) : Prop := (∃ x1 x2 x3 x4, s = [.val d, x1, x2, x3, x4] ∧ nb x1 ∧ nb x2 ∧ nb x3 ∧ nb x4) ∧ ∀ j, j < i → isWay n j (atD ds j) = true
def InvIp (n : Int) (i : Nat) (w : Wy) (d a b : D) (j : Nat) (s : Rho) : Prop := (∃ x3 x4, s = [.val d, .val a, .val b, x3, x4] ∧ nb x3 ∧ nb x4) ∧ ∀ k, k < j → isPart n i k (atD w.ps k) = true
theorem atD_get {ds : List D} {i : Nat} {x : D} (h : ds[i]? = some x) : atD ds i = x := by
  unfold atD
  rw [List.getD_eq_getElem?_getD, h]
  rfl
theorem hasHouse_t {s : D} {ds : List D} : hasHouse (.tup [s, .tup ds]) = (isWhole s 1 MOST && true && decide (1 ≤ ds.length) && decide (ds.length ≤ 3) && (List.range ds.length).all fun i => isWay (intD s) i (atD ds i)) := rfl
theorem B_law_is_house : Body t_law_is_house 5 1 F_law_is_house := Body.v fun ds Q E hh => by
  unfold S_law_is_house at hh
  split at hh
  · obtain ⟨d0, ds, rfl, h0, hds, hl, hq⟩ := hh
    refine ⟨rfl, ?_⟩
    have p0 := rowOk_pd h0
    have bl : ds.length ≤ LIM := by show _ ≤ 1000000; omega
    unfold t_law_is_house
    simp [p0, bl, isTup]
    rcases h0 with ⟨n, hn, rfl⟩ | ⟨w, g, rfl⟩
    · have ew : isWhole (.int n) 1 1000000000000000000000000000000 = true := by
        show (decide _ && decide _) = true
        simp [hn]
      simp [ew]
      refine .inr ⟨rfl, .inr ⟨rfl, ?_⟩⟩
      by_cases l1 : 1 ≤ ds.length
      · refine .inr ⟨by omega, ?_⟩
        by_cases l3 : ds.length ≤ 3
        · refine .inr ⟨by omega, ?_⟩
          have hv : hasHouse (.tup [.int n, .tup ds]) = (List.range ds.length).all fun i => isWay n i (atD ds i) := by
            rw [hasHouse_t, show isWhole (.int n) 1 MOST = true from ew, decide_eq_true l1, decide_eq_true l3]
            rfl
          rw [hv] at hq
          have qf : ∀ j, j < ds.length → isWay n j (atD ds j) = false → Q (.bl false) := fun j hj hw => by
            have e : ((List.range ds.length).all fun i => isWay n i (atD ds i)) = false := by
              rw [Bool.eq_false_iff]
              intro z
              have := List.all_eq_true.mp z j (List.mem_range.mpr hj)
              rw [hw] at this
              cases this
            rw [e] at hq
            exact hq
          have qt : (∀ j, j < ds.length → isWay n j (atD ds j) = true) → Q (.bl true) := fun h => by
            have e : ((List.range ds.length).all fun i => isWay n i (atD ds i)) = true := List.all_eq_true.mpr fun j hj => h j (List.mem_range.mp hj)
            rw [e] at hq
            exact hq
          refine forD_ix (InvIh n ds _) ⟨⟨_, _, _, _, rfl, trivial, trivial, trivial, trivial⟩, fun j hj => absurd hj (by omega)⟩ ?_ ?_
          · rintro i d s hi ⟨⟨x1, x2, x3, x4, rfl, n1, n2, n3, n4⟩, hg⟩
            obtain ⟨y, hy, rfl⟩ := enum_get hi
            have hil : i < ds.length := (List.getElem?_eq_some_iff.mp hy).1
            have hya := atD_get hy
            have hyr := hds y (List.mem_of_getElem? hy)
            simp [n1, n2]
            rcases hyr with ⟨m, hm, rfl⟩ | ⟨w, g, rfl⟩
            · exact .inl ⟨rfl, qf i hil (by rw [hya]; rfl)⟩
            · refine .inr ⟨rfl, ?_⟩
              have l6 : w.ps.length = 6 := rfl
              rw [show w.d = D.tup w.ps from rfl] at hya ⊢
              simp [l6, PLD']
              refine ⟨_, _, ⟨rfl, rfl⟩, _, rfl, _, rfl, ?_⟩
              refine forD_ix (InvIp n i w _ _ _) ⟨⟨_, _, rfl, n3, n4⟩, fun j hj => absurd hj (by omega)⟩ ?_ ?_
              · rintro j d s hj ⟨⟨x3, x4, rfl, n3, n4⟩, hgj⟩
                have hj6 : j < 6 := by
                  have := (List.getElem?_eq_some_iff.mp hj).1
                  simp [zipD, l6] at this
                  omega
                obtain rfl : d = .tup [.str (PL.getD j ""), atD w.ps j] := by
                  match j, hj6, hj with
                  | 0, _, hj => exact (Option.some.inj hj).symm
                  | 1, _, hj => exact (Option.some.inj hj).symm
                  | 2, _, hj => exact (Option.some.inj hj).symm
                  | 3, _, hj => exact (Option.some.inj hj).symm
                  | 4, _, hj => exact (Option.some.inj hj).symm
                  | 5, _, hj => exact (Option.some.inj hj).symm
                simp [n3, n4]
                refine ⟨w, j, g, hj6, by simp [List.getD_eq_getElem?_getD], rfl, ?_⟩
                cases hpv : isPart n i j (atD w.ps j) with
                | false =>
                  refine .inl ⟨rfl, qf i hil ?_⟩
                  rw [hya]
                  show (decide (w.ps.length = 6) && (List.range 6).all fun k => isPart n i k (atD w.ps k)) = false
                  rw [Bool.eq_false_iff]
                  intro z
                  have := List.all_eq_true.mp (Bool.and_eq_true_iff.mp z).2 j (List.mem_range.mpr hj6)
                  rw [hpv] at this
                  cases this
                | true =>
                  refine .inr ⟨rfl, ⟨_, _, rfl, trivial, trivial⟩, fun k hk => ?_⟩
                  by_cases e : k = j
                  · rw [e]
                    exact hpv
                  · exact hgj k (by omega)
              · rintro s ⟨⟨x3, x4, rfl, n3, n4⟩, hgj⟩
                refine ⟨⟨_, _, _, _, rfl, trivial, trivial, n3, n4⟩, fun j hj => ?_⟩
                by_cases e : j = i
                · rw [e, hya]
                  show (decide (w.ps.length = 6) && (List.range 6).all fun k => isPart n i k (atD w.ps k)) = true
                  rw [l6]
                  exact List.all_eq_true.mpr fun k hk => hgj k (by simpa [zipD, l6] using List.mem_range.mp hk)
                · exact hg j (by omega)
          · rintro s ⟨⟨x1, x2, x3, x4, rfl, n1, n2, n3, n4⟩, hg⟩
            simp
            exact qt fun j hj => hg j (by simpa [enumD] using hj)
        · refine .inl ⟨by omega, ?_⟩
          rw [hasHouse_t, decide_eq_false l3] at hq
          simpa using hq
      · refine .inl ⟨by omega, ?_⟩
        rw [hasHouse_t, decide_eq_false l1] at hq
        simpa using hq
    · have ew : isWhole w.d 1 1000000000000000000000000000000 = false := rfl
      simp [ew]
      exact .inr ⟨rfl, hq⟩
  · exact hh.elim
theorem bad_ix : ∀ (ls : List (List Nat)) (i : Nat), badAt i ls = (ixOf (fun y => eqD y .non) (ls.map lineD)).map (· + i + 1)
  | [], i => rfl
  | x :: ls, i => by
    have e : eqD (lineD x) .non = isNon (lineD x) := by cases lineD x <;> rfl
    rw [bad_step, List.map_cons, ixOf, e, bad_ix ls (i + 1)]
    cases isNon (lineD x)
    · simp
      cases ixOf (fun y => eqD y .non) (ls.map lineD) with
      | none => rfl
      | some j => simp; omega
    · simp
theorem any_ix {p : D → Bool} : ∀ ds : List D, ds.any p = (ixOf p ds).isSome
  | [] => rfl
  | d :: ds => by
    rw [List.any_cons, ixOf, any_ix ds]
    cases p d <;> simp
theorem lineD_ok (x : List Nat) : okD 50 (lineD x) = true := by
  unfold lineD
  cases sizeO x with
  | some n => rfl
  | none => exact pdB_ok 50 _ (pdB_mono 38 50 _ (by decide) (pdB39_wayD x))
theorem row_of {x : List Nat} (h : isNon (lineD x) = false) : rowOk (lineD x) := by
  cases hs : sizeO x with
  | some n =>
    refine .inl ⟨n, size_int hs, ?_⟩
    unfold lineD
    rw [hs]
  | none =>
    cases hw : wayO x with
    | some w =>
      refine .inr ⟨w, way_wr hw, ?_⟩
      unfold lineD
      rw [hs, hw]
      rfl
    | none =>
      rw [line_non.mpr ⟨hs, hw⟩] at h
      cases h
theorem bad_none : ∀ (ls : List (List Nat)) (i : Nat), badAt i ls = none → ∀ x ∈ ls, isNon (lineD x) = false
  | x :: ls, i, h, y, hy => by
    rw [bad_step] at h
    by_cases e : isNon (lineD x) = true
    · rw [if_pos e] at h
      cases h
    · rw [if_neg e] at h
      rcases List.mem_cons.mp hy with rfl | hy
      · exact Bool.eq_false_iff.mpr e
      · exact bad_none ls (i + 1) h y hy
theorem size_way {x : List Nat} {n : Int} (h : sizeO x = some n) : wayO x = none := by
  rw [wayO_w]
  refine wyW_no fun z => ?_
  rw [sizeO_w, szW_no (by omega)] at h
  cases h
theorem way_same (s n : Int) (x : List Nat) : isWay s n (lineD x) = isWay s n (wayD (wayO x)) ∧ (isWay s n (lineD x) = true → lineD x = wayD (wayO x)) := by
  cases hs : sizeO x with
  | none =>
    have e : lineD x = wayD (wayO x) := by
      unfold lineD
      rw [hs]
    rw [e]
    exact ⟨rfl, fun _ => rfl⟩
  | some m =>
    have e : lineD x = .int m := by
      unfold lineD
      rw [hs]
    rw [e, size_way hs]
    exact ⟨rfl, fun z => by cases z⟩
theorem atD_map {f : List Nat → D} {r : List (List Nat)} {i : Nat} (h : i < r.length) : atD (r.map f) i = f r[i] := atD_get (by rw [List.getElem?_map, List.getElem?_eq_getElem h]; rfl)
/-- the house of the rows, and the house of the ways that are read again -/
theorem house_same (y : List Nat) (r : List (List Nat)) : hasHouse (.tup [lineD y, .tup (r.map lineD)]) = hasHouse (houseO (y :: r)) ∧ (hasHouse (houseO (y :: r)) = true → D.tup [lineD y, .tup (r.map lineD)] = houseO (y :: r)) := by
  have e0 : houseO (y :: r) = .tup [optD (sizeO y), .tup (r.map fun x => wayD (wayO x))] := rfl
  rw [e0, hasHouse_t, hasHouse_t, List.length_map, List.length_map]
  cases hs : sizeO y with
  | none =>
    have e1 : isWhole (lineD y) 1 MOST = false := by
      unfold lineD
      rw [hs]
      cases wayO y <;> rfl
    rw [e1]
    exact ⟨rfl, fun z => by simp [optD, isWhole] at z⟩
  | some n =>
    have e1 : lineD y = .int n := by
      unfold lineD
      rw [hs]
    rw [e1]
    have e2 : ((List.range r.length).all fun i => isWay n i (atD (r.map lineD) i)) = (List.range r.length).all fun i => isWay n i (atD (r.map fun x => wayD (wayO x)) i) := by
      rw [Bool.eq_iff_iff, List.all_eq_true, List.all_eq_true]
      refine forall_congr' fun i => ?_
      refine forall_congr' fun hi => ?_
      have hi2 := List.mem_range.mp hi
      rw [atD_map hi2, atD_map hi2, (way_same n i r[i]).1]
    refine ⟨by
      show (_ && _ && _ && _ && (List.range r.length).all fun i => isWay n i (atD (r.map lineD) i)) = (_ && _ && _ && _ && (List.range r.length).all fun i => isWay n i (atD (r.map fun x => wayD (wayO x)) i))
      rw [e2]
      rfl, fun z => ?_⟩
    have z2 : ((List.range r.length).all fun i => isWay n i (atD (r.map fun x => wayD (wayO x)) i)) = true := (Bool.and_eq_true_iff.mp z).2
    have e3 : r.map lineD = r.map fun x => wayD (wayO x) := by
      apply List.ext_getElem (by simp)
      intro i h1 h2
      have hi : i < r.length := by simpa using h1
      have w := List.all_eq_true.mp z2 i (List.mem_range.mpr hi)
      rw [atD_map hi, ← (way_same n i r[i]).1] at w
      simpa using (way_same n i r[i]).2 w
    rw [e3]
    rfl
theorem B_law_due : Body t_law_due 4 1 F_law_due := Body.v fun ds Q E hh => by
  unfold S_law_read_so at hh
  split at hh
  · rename_i d0
    refine ⟨rfl, ?_⟩
    unfold t_law_due
    rcases hh with ⟨l, rfl, tx, hq⟩ | ⟨ht, hq⟩
    · have bl2 : l.length ≤ LIM := by show _ ≤ 1000000; have := tx.1.1; omega
      have ti : isTy (D.str (SX.S l)) "str" = some true := rfl
      have ok := spl_ok (c := 10) tx.1
      have cnt : (sp1 10 l).length ≤ 101 := by rw [spl_count]; have := tx.2; omega
      have cnt1 : 1 ≤ (sp1 10 l).length := by rw [spl_count]; omega
      have hb := @due_bad l
      have hn := @due_no l
      have bl3 : (sp1 10 l).length ≤ LIM := by show _ ≤ 1000000; omega
      simp [spl_nl, SX.S_len, bl2, ti, F_law_line_of, bl3]
      refine ⟨by rw [s_nl]; decide, ?_⟩
      generalize sp1 10 l = ls at *
      refine lc_map (f := fun d => lineD (strL d)) (by simp) trivial (fun d hd Qd hq => ?_) ?_
      · obtain ⟨x, hx, rfl⟩ := List.mem_map.mp hd
        simp
        exact ⟨x, rfl, ok x hx, hq⟩
      · have em : ((ls.map (D.str ∘ SX.S)).map fun d => lineD (strL d)) = ls.map lineD := by
          rw [List.map_map]
          exact List.map_congr_left fun x _ => rfl
        rw [em]
        have oks : (ls.map lineD).all (okD 50) = true := List.all_eq_true.mpr fun d hd => by
          obtain ⟨x, _, rfl⟩ := List.mem_map.mp hd
          exact lineD_ok x
        have bx := bad_ix ls 0
        have ee : ∀ x, eqD (lineD x) .non = isNon (lineD x) := fun x => by cases lineD x <;> rfl
        simp
        refine ⟨fun a _ => lineD_ok a, ?_⟩
        cases hx : badAt 0 ls with
        | none =>
          have hd := hn hx
          refine .inl ⟨fun x hxm => by rw [ee]; exact bad_none ls 0 hx x hxm, ?_⟩
          cases ls with
          | nil => simp at cnt1
          | cons y r =>
            refine ⟨lineD y, ⟨y, rfl, rfl⟩, lineD y, r.map lineD, rfl, row_of (bad_none _ 0 hx y (by simp)), fun x hxm => ?_, by simp at cnt ⊢; omega, ?_⟩
            · obtain ⟨z, hz, rfl⟩ := List.mem_map.mp hxm
              exact row_of (bad_none _ 0 hx z (by simp [hz]))
            · have hs := house_same y r
              show D.bl (hasHouse (D.tup [lineD y, .tup (r.map lineD)])) = .bl false ∧ Q (.int (((y :: r).length : Nat) + 1)) ∨ D.bl (hasHouse (D.tup [lineD y, .tup (r.map lineD)])) = .bl true ∧ Q (.tup [lineD y, .tup (r.map lineD)])
              rw [hs.1]
              cases hh : hasHouse (houseO (y :: r)) with
              | false =>
                rw [hh, if_neg (by decide)] at hd
                rw [hd] at hq
                exact .inl ⟨rfl, hq⟩
              | true =>
                rw [hh, if_pos rfl, ← hs.2 hh] at hd
                rw [hd] at hq
                exact .inr ⟨rfl, hq⟩
        | some n =>
          have hd := hb hx
          rw [hd] at hq
          rw [hx] at bx
          cases hi : ixOf (fun y => eqD y .non) (ls.map lineD) with
          | none =>
            rw [hi] at bx
            cases bx
          | some j =>
            rw [hi] at bx
            obtain rfl : n = j + 0 + 1 := by simpa using bx
            refine .inr ⟨?_, fun a _ => lineD_ok a, j, rfl, hq⟩
            have ha := any_ix (p := fun y => eqD y .non) (ls.map lineD)
            rw [hi] at ha
            obtain ⟨d, hd1, hd2⟩ := List.any_eq_true.mp ha
            obtain ⟨x, hxm, rfl⟩ := List.mem_map.mp hd1
            exact ⟨x, hxm, hd2⟩
    · simp [ht]
      exact hq
  · exact hh.elim
theorem odd_s {x : Str} (h : TxT x.cps.toList) : OddD (.str x) := .inl ⟨x.cps.toList, by rw [SX.S_tl], h⟩
def InvOdd (n : Int) (sm : D) (j : Nat) (r acc : List D) (s : Rho) : Prop := ∃ m, s = [.brw m, .val (.int n), .val sm, .no, .no] ∧ Vat m ∧ acc.length + r.length ≤ j
theorem oddB {F : FS} {k : Int} (hk : k = 0 ∨ (k ≠ 0 ∧ F = FB (S_law_odd (k - 1)))) : Body (t_law_odd F) 5 2 (FB (S_law_odd k)) := Body.b fun b ds Q E hh => by
  unfold S_law_odd at hh
  split at hh
  · rename_i n
    obtain ⟨hv, rfl, hq⟩ := hh
    refine ⟨rfl, ?_⟩
    have ol : ∀ ds, OddD (.lst ds) := fun ds => .inr rfl
    have ot : ∀ ds, OddD (.tup ds) := fun ds => .inr rfl
    have o1 : OddD (.str (Str.ofString "")) := odd_s ⟨⟨by decide +kernel, by decide +kernel⟩, by decide +kernel⟩
    have o2 : OddD (.str (Str.ofString "share")) := odd_s ⟨⟨by decide +kernel, by decide +kernel⟩, by decide +kernel⟩
    have o3 : OddD (.str (Str.ofString "back")) := odd_s ⟨⟨by decide +kernel, by decide +kernel⟩, by decide +kernel⟩
    unfold t_law_odd
    rcases hk with rfl | ⟨h0, rfl⟩
    · simp
      refine ⟨by show 21 ≤ 1000000; omega, hv, ?_⟩
      and_intros
      all_goals exact fun m' v => hq _ (by first | exact ol _ | exact ot _ | exact o1 | exact o2 | exact o3 | exact .inr rfl) m' v
    · simp [h0]
      refine ⟨by show 21 ≤ 1000000; omega, hv, fun r m' r0 r9 v => ?_⟩
      by_cases h6 : 6 ≤ r
      · refine .inl ⟨h6, v, fun r m' r0 r4 v => ⟨by omega, by show r ≤ ((1000000 : Nat) : Int); omega, ?_⟩⟩
        refine lcD_inv (InvOdd n _ 3) ⟨_, rfl, v, by simp; omega⟩ ?_ ?_
        · rintro d r acc s _ ⟨m, rfl, vm, hl⟩
          simp [wipeR, bakR]
          exact ⟨vm, rfl, fun d _ m' v => ⟨m', rfl, m', rfl, v, by simp at hl ⊢; omega⟩⟩
        · rintro acc s ⟨m, rfl, vm, hl⟩
          have al : acc.length ≤ LIM := by show _ ≤ 1000000; simp at hl; omega
          simp [al]
          refine ⟨vm, fun r m' _ _ v => ?_⟩
          by_cases hr : r = 0
          · exact .inr ⟨hr, hq _ (ol _) m' v⟩
          · exact .inl ⟨hr, hq _ (ot _) m' v⟩
      · refine .inr ⟨by omega, v, ?_⟩
        and_intros
        all_goals exact fun m' v => hq _ (by first | exact ol _ | exact ot _ | exact o1 | exact o2 | exact o3 | exact .inr rfl) m' v
  · exact hh.elim
theorem cutS_to {l : List Nat} {i : Int} (h : 0 ≤ i) : cutS (SX.S l) none (some i) = SX.S (l.take i.toNat) := by rw [C8.cutS_slice, SX.slice_to h]
theorem cutS_from {l : List Nat} {i : Int} (h : 0 ≤ i) : cutS (SX.S l) (some i) none = SX.S (l.drop i.toNat) := by rw [C8.cutS_slice, SX.slice_from h]
theorem cut_to {xs : List (List Nat)} {g : List Nat → D} {i : Int} (h : 0 ≤ i) (h2 : i ≤ xs.length) : cut (xs.map g) none (some i) = (xs.take i.toNat).map g := by
  obtain ⟨k, rfl⟩ := Int.eq_ofNat_of_zero_le h
  unfold cut
  rw [List.length_map, show HT.sIx xs.length xs.length (some (k : Int)) = min k xs.length from HT.sIx_nat _ _ _, show HT.sIx xs.length 0 none = 0 from rfl, List.drop_zero, Nat.sub_zero, ← List.map_take, Nat.min_eq_left (by omega)]
  rfl
theorem cut_from {xs : List (List Nat)} {g : List Nat → D} {i : Int} (h : 0 ≤ i) (h2 : i ≤ xs.length) : cut (xs.map g) (some i) none = (xs.drop i.toNat).map g := by
  obtain ⟨k, rfl⟩ := Int.eq_ofNat_of_zero_le h
  unfold cut
  rw [List.length_map, show HT.sIx xs.length 0 (some (k : Int)) = min k xs.length from HT.sIx_nat _ _ _, show HT.sIx xs.length xs.length none = xs.length from rfl, Nat.min_eq_left (by omega), ← List.map_drop]
  rw [List.take_of_length_le (by simp)]
  rfl
def markB (z : Str) : Bool := z.cps.toList.all (fun c => decide (c < 128)) && decide (z.cps.toList.length ≤ 30) && decide (z.cps.toList.count 10 ≤ 1)
def lineB (z : Str) : Bool := z.cps.toList.all (fun c => decide (c < 128)) && decide (z.cps.toList.length ≤ 20) && decide (z.cps.toList.count 10 = 0)
theorem B_law_spoilt : Body t_law_spoilt 8 2 F_law_spoilt := Body.b fun b ds Q E hh => by
  unfold S_law_spoilt at hh
  split at hh
  · rename_i a
    obtain ⟨hv, l, rfl, tx, hq⟩ := hh
    refine ⟨rfl, ?_⟩
    have bl2 : l.length ≤ LIM := by show _ ≤ 1000000; have := tx.1; omega
    unfold t_law_spoilt
    simp [spl_nl, SX.S_len, bl2, F_law_under, F_law_some]
    refine ⟨hv, by have := tx.1; omega, fun spot m' r0 r1 v => ⟨v, fun way m' w0 w6 v => ?_⟩⟩
    by_cases h2 : 2 ≤ way
    · refine .inl ⟨h2, by rw [s_nl]; decide, v, ⟨by rw [spl_count]; omega, by rw [spl_count]; have := tx.1; have := List.count_le_length (a := 10) (l := l); omega⟩, fun here m' h0 h1 v => ?_⟩
      have lens : lenS (sp1 10 l) + l.count 10 = l.length := by simpa using spl_lens (c := 10) l []
      have cnt : (sp1 10 l).length = l.count 10 + 1 := spl_count l []
      have cl := List.count_le_length (a := 10) (l := l)
      have ok1 := spl_ok (c := 10) tx
      have fr : ∀ p ∈ sp1 10 l, 10 ∉ p := spl_free1 (c := 10) l [] (by simp)
      have l5 := tx.1
      have jn : ∀ (ds : List D) (ps : List (List Nat)), ds = ps.map (D.str ∘ SX.S) → (∀ p ∈ ps, 10 ∉ p ∧ ∀ c ∈ p, c < 128) → lenS ps ≤ 2 * lenS (sp1 10 l) + 20 → ps.length ≤ (sp1 10 l).length + 1 → ∀ m', Vat m' →
          ∃ ys : List Str, ds = ys.map D.str ∧ (ys.map fun x => x.length).sum + ys.length * (Str.ofString "\n").length ≤ 16777216 ∧ Q (.str (Txt.join (Str.ofString "\n") ys)) (.brw m') := by
        intro ds ps e hp hl hn m' v
        have hs : ((ps.map SX.S).map fun x => x.length).sum = lenS ps := by
          rw [SX.lens]
          rfl
        refine ⟨ps.map SX.S, by rw [e, List.map_map], ?_, ?_⟩
        · rw [hs, s_nl, SX.S_len, List.length_map]
          simp
          omega
        · rw [s_nl, SX.join_S]
          have jl := joinL_len (c := 10) (ps := ps)
          have jc := joinL_count (c := 10) (ps := ps) fun p h => (hp p h).1
          refine hq _ (fun c hc => ?_) (by omega) (by omega) m' v
          rcases joinL_mem c hc with rfl | ⟨p, hpm, hc⟩
          · decide
          · exact (hp p hpm).2 c hc
      have okp : ∀ p ∈ sp1 10 l, 10 ∉ p ∧ ∀ c ∈ p, c < 128 := fun p h => ⟨fr p h, (ok1 p h).2⟩
      have lt := fun i => lenS_cut (sp1 10 l) i
      rw [cut_to (xs := sp1 10 l) h0 (by omega), cut_from (xs := sp1 10 l) (i := here + 1) (by omega) (by omega), cut_to (xs := sp1 10 l) (i := here + 1) (by omega) (by omega), cut_from (xs := sp1 10 l) h0 (by omega)]
      generalize sp1 10 l = ls at *
      have lt1 := lt here.toNat
      have lt2 := lt (here + 1).toNat
      have tk : ∀ i, ∀ p ∈ ls.take i, 10 ∉ p ∧ ∀ c ∈ p, c < 128 := fun i p h => okp p (List.mem_of_mem_take h)
      have dk : ∀ i, ∀ p ∈ ls.drop i, 10 ∉ p ∧ ∀ c ∈ p, c < 128 := fun i p h => okp p (List.mem_of_mem_drop h)
      have ap : ∀ {a b : List (List Nat)}, (∀ p ∈ a, 10 ∉ p ∧ ∀ c ∈ p, c < 128) → (∀ p ∈ b, 10 ∉ p ∧ ∀ c ∈ p, c < 128) → ∀ p ∈ a ++ b, 10 ∉ p ∧ ∀ c ∈ p, c < 128 := fun ha hb p hp => (List.mem_append.mp hp).elim (ha p) (hb p)
      have two : ∀ a b : List (List Nat), (∀ p ∈ a, 10 ∉ p ∧ ∀ c ∈ p, c < 128) → (∀ p ∈ b, 10 ∉ p ∧ ∀ c ∈ p, c < 128) → lenS a + lenS b ≤ 2 * lenS ls → a.length + b.length ≤ ls.length + 1 → (a.map (D.str ∘ SX.S)).length + (b.map (D.str ∘ SX.S)).length ≤ LIM ∧
          ∃ ys : List Str, a.map (D.str ∘ SX.S) ++ b.map (D.str ∘ SX.S) = ys.map D.str ∧ (ys.map fun x => x.length).sum + ys.length * (Str.ofString "\n").length ≤ 16777216 ∧ Q (.str (Txt.join (Str.ofString "\n") ys)) (.brw m') := by
        intro a b ha hb hl hn
        refine ⟨by rw [List.length_map, List.length_map]; show _ ≤ 1000000; omega, jn _ (a ++ b) (by rw [List.map_append]) (ap ha hb) (by rw [lenS_app]; omega) (by rw [List.length_append]; omega) m' v⟩
      by_cases w2 : way = 2
      · refine .inr ⟨w2, two _ _ (tk _) (dk _) (by omega) (by simp; omega)⟩
      · refine .inl ⟨w2, ?_⟩
        by_cases w3 : way = 3
        · refine .inr ⟨w3, two _ _ (tk _) (dk _) (by omega) (by simp; omega)⟩
        · refine .inl ⟨w3, ?_⟩
          by_cases w4 : way = 4
          · refine .inr ⟨w4, two _ _ (dk _) (tk _) (by omega) (by simp; omega)⟩
          · refine .inl ⟨w4, v, ?_⟩
            have one : ∀ z : Str, lineB z = true → ∀ m', Vat m' → ((ls.take here.toNat).map (D.str ∘ SX.S)).length + 1 ≤ LIM ∧ ((ls.take here.toNat).map (D.str ∘ SX.S)).length + 1 + ((ls.drop (here + 1).toNat).map (D.str ∘ SX.S)).length ≤ LIM ∧
                ∃ ys : List Str, (ls.take here.toNat).map (D.str ∘ SX.S) ++ D.str z :: (ls.drop (here + 1).toNat).map (D.str ∘ SX.S) = ys.map D.str ∧ (ys.map fun x => x.length).sum + ys.length * (Str.ofString "\n").length ≤ 16777216 ∧ Q (.str (Txt.join (Str.ofString "\n") ys)) (.brw m') := by
              intro z hz m' v
              unfold lineB at hz
              simp only [Bool.and_eq_true, decide_eq_true_eq, List.all_eq_true] at hz
              obtain ⟨⟨z1, z2⟩, z3⟩ := hz
              have ez : z = SX.S z.cps.toList := (SX.S_tl z).symm
              generalize z.cps.toList = zl at *
              subst ez
              refine ⟨by simp; show _ ≤ 1000000; omega, by simp; show _ ≤ 1000000; omega, jn _ (ls.take here.toNat ++ zl :: ls.drop (here + 1).toNat) (by simp) (ap (tk _) fun p hp => ?_) (by rw [lenS_app, lenS_cons]; omega) (by simp; omega) m' v⟩
              rcases List.mem_cons.mp hp with rfl | hp
              · exact ⟨List.count_eq_zero.mp z3, z1⟩
              · exact dk _ p hp
            and_intros
            all_goals exact one _ (by decide +kernel)
    · refine .inr ⟨by omega, ?_⟩
      have mk : ∀ z : Str, markB z = true → ∀ m', Vat m' → (cutS (SX.S l) none (some spot)).length + z.length ≤ LIM ∧ (cutS (SX.S l) none (some spot) ++ z).length + (cutS (SX.S l) (some (spot + way)) none).length ≤ LIM ∧ Q (.str (cutS (SX.S l) none (some spot) ++ z ++ cutS (SX.S l) (some (spot + way)) none)) (.brw m') := by
        intro z hz m' v
        unfold markB at hz
        simp only [Bool.and_eq_true, decide_eq_true_eq, List.all_eq_true] at hz
        obtain ⟨⟨z1, z2⟩, z3⟩ := hz
        have ez : z = SX.S z.cps.toList := (SX.S_tl z).symm
        generalize z.cps.toList = zl at *
        subst ez
        rw [cutS_to r0, cutS_from (by omega), SX.S_cat, SX.S_cat, SX.S_len, SX.S_len, SX.S_len, SX.S_len]
        have lt : (l.take spot.toNat).length ≤ l.length := by simp; omega
        have ld : (l.drop (spot + way).toNat).length ≤ l.length := by simp
        have l5 := tx.1
        have tot : (l.take spot.toNat).length + (l.drop (spot + way).toNat).length ≤ l.length := by simp; omega
        refine ⟨by show _ ≤ 1000000; omega, by rw [List.length_append]; show _ ≤ 1000000; omega, hq _ (fun c hc => ?_) ?_ ?_ m' v⟩
        · rcases List.mem_append.mp hc with hc | hc
          · rcases List.mem_append.mp hc with hc | hc
            · exact tx.2 c (List.mem_of_mem_take hc)
            · exact z1 c hc
          · exact tx.2 c (List.mem_of_mem_drop hc)
        · rw [List.length_append, List.length_append]
          omega
        · rw [List.count_append, List.count_append]
          have c1 : (l.take spot.toNat).count 10 + (l.drop spot.toNat).count 10 = l.count 10 := by rw [← List.count_append, List.take_append_drop]
          have c2 : (l.drop (spot + way).toNat).count 10 ≤ (l.drop spot.toNat).count 10 := by
            rw [show (spot + way).toNat = spot.toNat + way.toNat by omega, ← List.drop_drop]
            exact (List.drop_sublist _ _).count_le _
          omega
      refine ⟨v, ?_⟩
      and_intros
      all_goals exact mk _ (by decide +kernel)
  · exact hh.elim
theorem houseL_asc {h : Hs} (g : GoodH h) : ∀ c ∈ houseL h, c < 128 := by
  have z : ∀ s : Nat, 122 < s → s ∉ houseL h := by
    intro s hs
    refine joinL_free (by simp; omega) fun p hp => ?_
    rcases List.mem_cons.mp hp with rfl | hp
    · refine joinL_free (by simp; omega) fun p hp => ?_
      simp only [sizeWs, List.mem_cons, List.not_mem_nil, or_false] at hp
      rcases hp with rfl | rfl
      · simp only [wSize, List.mem_cons, List.not_mem_nil, or_false]; omega
      · exact numI_free (.inr (by omega))
    · obtain ⟨w, _, rfl⟩ := List.mem_map.mp hp
      refine joinL_free (by simp; omega) fun p hp => ?_
      simp only [wayWs, List.mem_cons, List.not_mem_nil, or_false] at hp
      rcases hp with rfl | rfl | rfl | rfl | rfl | rfl | rfl
      · simp only [wWay, List.mem_cons, List.not_mem_nil, or_false]; omega
      · exact numI_free (.inr (by omega))
      · exact numI_free (.inr (by omega))
      · exact numI_free (.inr (by omega))
      · cases w.fence with
        | none => simp only [fenL, List.mem_cons, List.not_mem_nil, or_false]; omega
        | some f => exact numI_free (.inr (by omega))
      · exact kindL_free (.inr (by omega))
      · cases w.keeps <;> simp only [keepL, wKept, wFree, List.mem_cons, List.not_mem_nil, or_false, if_true, if_false, Bool.false_eq_true] <;> omega
  intro c hc
  by_cases q : 122 < c
  · exact absurd hc (z c q)
  · omega
theorem houseL_count {h : Hs} (g : GoodH h) : (houseL h).count 10 ≤ 3 := by
  have := joinL_count (c := 10) (ps := linesL h) linesL_free
  have hm := g.many
  simp [linesL] at this
  exact Nat.le_trans this hm.2
theorem due_ok {l : List Nat} (h : TxT l) : okD 60 (dueD l) = true ∧ isTy (dueD l) "bool" = some false := by
  have cnt : (sp1 10 l).length ≤ 101 := by rw [spl_count]; have := h.2; omega
  cases hb : badAt 0 (sp1 10 l) with
  | some n =>
    rw [due_bad hb]
    exact ⟨rfl, rfl⟩
  | none =>
    rw [due_no hb]
    split
    · exact ⟨pd_ok (house_pd (by omega)), rfl⟩
    · exact ⟨rfl, rfl⟩
theorem so_use {d : D} (h : OddD d) : ∃ v, (okD 60 v = true ∧ isTy v "bool" = some false) ∧ ∀ {Q : D → Prop} {E : Exc → Prop}, Q v → S_law_read_so [d] Q E := by
  rcases h with ⟨l, rfl, tx⟩ | ht
  · exact ⟨dueD l, due_ok tx, fun hq => .inl ⟨l, rfl, tx, hq⟩⟩
  · exact ⟨.int 0, ⟨rfl, rfl⟩, fun hq => .inr ⟨ht, hq⟩⟩
def rowB (z : Str) (n : Int) : Bool := decide (z.cps.toList.length ≤ 500000) && z.cps.toList.all (fun c => decide (c < 128)) && decide (z.cps.toList.count 10 ≤ 100) && (match dueD z.cps.toList with
  | .int k => decide (k = n)
  | _ => false)
def RowR (d : D) : Prop := ∃ x v, d = .tup [x, .int v] ∧ ∀ {Q : D → Prop} {E : Exc → Prop}, Q (.int v) → S_law_read_so [x] Q E
theorem row_s {z : Str} {n : Int} (h : rowB z n = true) : RowR (.tup [.str z, .int n]) := by
  unfold rowB at h
  simp only [Bool.and_eq_true, decide_eq_true_eq, List.all_eq_true] at h
  obtain ⟨⟨⟨h1, h2⟩, h3⟩, h4⟩ := h
  refine ⟨.str z, n, rfl, fun hq => .inl ⟨z.cps.toList, by rw [SX.S_tl], ⟨⟨h1, h2⟩, h3⟩, ?_⟩⟩
  split at h4
  · rename_i k e
    rw [e, of_decide_eq_true h4]
    exact hq
  · cases h4
theorem row_n : RowR (.tup [.non, .int 0]) := ⟨.non, 0, rfl, fun hq => .inr ⟨rfl, hq⟩⟩
theorem up_count (l : List Nat) : (l.map PyProof.Rows.up1).count 10 = l.count 10 := by
  unfold List.count
  rw [List.countP_map]
  refine List.countP_congr fun c _ => ?_
  simp only [Function.comp, beq_iff_eq, PyProof.Rows.up1]
  split <;> omega
def InvV (ns : List Int) (i : Nat) (x2 x3 t x7 x8 x9 : Sl) (j : Nat) (s : Rho) : Prop := ∃ m x6, s = [.val (.scr ns), .val (.int i), x2, x3, .own m, t, x6, x7, x8, x9] ∧ Vat m ∧ nb x6
def InvC (ns : List Int) (i : Nat) (x2 x3 x9 : Sl) (j : Nat) (s : Rho) : Prop := ∃ m l x6 x7 x8, s = [.val (.scr ns), .val (.int i), x2, x3, .own m, .val (.str (SX.S l)), x6, x7, x8, x9] ∧ Vat m ∧ (nb x6 ∧ nb x7 ∧ nb x8) ∧ l.length + 30 ≤ 2 ^ j * 1030 ∧ l.count 10 ≤ 3 + j ∧ ∀ c ∈ l, c < 128
def InvL12 (ns : List Int) (i : Nat) (s : Rho) : Prop := ∃ x1 x2 x3 x4 x5 x6 x7 x8 : Sl, s = [.val (.scr ns), x1, x2, x3, x4, x5, x6, x7, x8, .no] ∧ nbl [x1, x2, x3, x4, x5, x6, x7, x8]
theorem B_law : Body t_law 10 1 F_law := Body.v fun ds Q E hh => by
  unfold S_law at hh
  split at hh
  · obtain ⟨hl, hq⟩ := hh
    refine ⟨rfl, ?_⟩
    unfold t_law
    rename_i ns
    refine sSeq_k fun K hK => ?_
    simp
    refine ⟨⟨by omega, by omega⟩, ?_⟩
    refine forD_ix (InvL12 ns) ?_ ?_ (fun s hs => hK s ?_)
    · exact ⟨_, _, _, _, _, _, _, _, rfl, by simp⟩
    · rintro i d s hd ⟨x1, x2, x3, x4, x5, x6, x7, x8, rfl, hn⟩
      obtain ⟨rfl, hi⟩ := rng_get' hd
      simp at hn
      have hi2 : i < 16 := by revert hi; split <;> split <;> omega
      refine ⟨by simp [hn], ?_⟩
      refine sSeq_k fun K1 hK1 => ?_
      simp [hn]
      refine ⟨by omega, fun m hv => hK1 _ ?_⟩
      refine sSeq_k fun K2 hK2 => ?_
      have fin : ∀ h : Hs, GoodH h → ∀ m', Vat m' → K2 [.val (.scr ns), .val (.int i), x2, x3, .own m', .val (.str (SX.S (houseL h))), x6, x7, x8, .no] := by
        intro h g m' hv'
        refine hK2 _ ?_
        refine sSeq_k fun K3 hK3 => ?_
        have len := houseL_len g
        have asc := houseL_asc g
        have cnt := houseL_count g
        have app : ∀ a : List Nat, a.length ≤ 10 → (∀ c ∈ a, c < 128) → a.count 10 ≤ 1 → TxT (houseL h ++ a) ∧ TxT (a ++ houseL h) := fun a h1 h2 h3 =>
          ⟨⟨⟨by rw [List.length_append]; omega, fun c hc => (List.mem_append.mp hc).elim (asc c) (h2 c)⟩, by rw [List.count_append]; omega⟩, ⟨⟨by rw [List.length_append]; omega, fun c hc => (List.mem_append.mp hc).elim (h2 c) (asc c)⟩, by rw [List.count_append]; omega⟩⟩
        simp [hn]
        have l1 : (SX.S (houseL h)).length ≤ LIM := by rw [SX.S_len]; show _ ≤ 1000000; omega
        refine ⟨by rw [s_nl, SX.S_len, SX.S_len]; show _ ≤ 1000000; simp; omega, by rw [s_sp, SX.S_len, SX.S_len]; show _ ≤ 1000000; simp; omega, hv', rfl, fun d hd m' v => ⟨m', rfl, l1, by rw [s_sp, SX.S_len, SX.S_len]; show _ ≤ 1000000; simp; omega, ?_⟩⟩
        refine forD_ix (InvV ns i _ _ _ _ _ _) ⟨_, _, rfl, v, by simp [hn]⟩ ?_ ?_
        · rintro j e s he ⟨m, x6, rfl, vm, n6⟩
          have ho : OddD e := by
            have he2 := List.mem_of_getElem? he
            simp only [List.mem_cons, List.not_mem_nil, or_false] at he2
            rcases he2 with rfl | rfl | rfl | rfl | rfl | rfl
            · rw [s_nl, SX.S_cat]
              exact .inl ⟨_, rfl, (app [10] (by decide) (by decide) (by decide)).1⟩
            · rw [s_sp, SX.S_cat]
              exact .inl ⟨_, rfl, (app [32] (by decide) (by decide) (by decide)).2⟩
            · exact hd
            · exact .inr rfl
            · rw [SX.upper_S (List.all_eq_true.mpr fun c hc => decide_eq_true (asc c hc))]
              refine .inl ⟨_, rfl, ⟨by rw [List.length_map]; omega, fun c hc => ?_⟩, by rw [up_count]; omega⟩
              obtain ⟨x, hx, rfl⟩ := List.mem_map.mp hc
              have := asc x hx
              unfold PyProof.Rows.up1
              split <;> omega
            · rw [s_sp, SX.S_cat]
              exact .inl ⟨_, rfl, (app [32] (by decide) (by decide) (by decide)).1⟩
          obtain ⟨v0, ⟨ok0, _⟩, use⟩ := so_use ho
          have same := eqD_same ok0
          simp [n6, F_law_read_so, F_law_due]
          refine use (use ?_)
          simp [ok0, same]
          exact ⟨m, _, rfl, vm, trivial⟩
        · rintro s ⟨m, x6, rfl, vm, n6⟩
          refine hK3 _ ?_
          simp
          refine forD_ix (InvC ns i _ _ _) ⟨m, houseL h, x6, x7, x8, rfl, vm, ⟨n6, by simp [hn], by simp [hn]⟩, by omega, by omega, asc⟩ ?_ ?_
          · rintro j e s he ⟨m, l, x6, x7, x8, rfl, vm, ⟨n6, n7, n8⟩, hl1, hl2, hl3⟩
            obtain ⟨rfl, hj⟩ := rng_get' he
            have hj7 : j < 7 := by simpa using hj
            have p7 : 2 ^ j ≤ 2 ^ 6 := Nat.pow_le_pow_right (by decide) (by omega)
            have tx : TxO l := ⟨by omega, hl3⟩
            simp [n6, n7, n8, F_law_spoilt]
            refine ⟨vm, l, rfl, tx, fun l' a1 a2 a3 m' v => ?_⟩
            have p8 : 2 ^ (j + 1) = 2 * 2 ^ j := by rw [Nat.pow_succ]; omega
            have tx' : TxT l' := ⟨⟨by omega, a1⟩, by omega⟩
            obtain ⟨v0, ⟨ok0, bo⟩, use⟩ := so_use (d := .str (SX.S l')) (.inl ⟨l', rfl, tx'⟩)
            have same := eqD_same ok0
            simp [n6, n7, n8, F_law_read_so, F_law_due]
            refine use (use ?_)
            simp [ok0, same, bo]
            exact ⟨m', l', _, _, _, rfl, v, ⟨n6, trivial, trivial⟩, by omega, by omega, a1⟩
          · rintro s ⟨m, l, x6, x7, x8, rfl, vm, ⟨n6, n7, n8⟩, hl1, hl2, hl3⟩
            exact ⟨_, _, _, _, _, _, _, _, rfl, by simp [hn, n6, n7, n8]⟩
      simp [hn, F_law_lines]
      have go : ∀ (h : Hs), GoodH h → ∀ m', Vat m' → S_law_lines [h.d] (fun d => ∃ ys : List Str, seqD d = some (ys.map D.str) ∧ (ys.map (fun x => x.length)).sum + ys.length * (Str.ofString "\n").length ≤ 16777216 ∧ K2 [Sl.val (D.scr ns), Sl.val (D.int i), x2, x3, Sl.own m', Sl.val (D.str (Txt.join (Str.ofString "\n") ys)), x6, x7, x8, .no]) (fun x => E x) := by
        intro h g m' v
        refine ⟨h, rfl, g, (linesL h).map SX.S, rfl, lines_lim g, ?_⟩
        rw [s_nl, join_house]
        exact fin h g m' v
      exact ⟨hv, fun m' v' => ⟨v', fun h g _ m'' v'' => go h g m'' v''⟩, fun m' v' => ⟨v', fun h g _ m'' v'' => go h g m'' v''⟩, fun m' v' => ⟨v', fun h g _ m'' v'' => go h g m'' v''⟩⟩
    · obtain ⟨x1, x2, x3, x4, x5, x6, x7, x8, rfl, hn⟩ := hs
      simp at hn
      simp [hn]
      repeat (refine ⟨by decide +kernel, ?_⟩)
      refine lcD_pure (p := fun _ => false) (f := id) (by simp) (by simp [hn]) _ [] _ (fun d hd Qb hq => ?_) (fun d h hp => by cases hp) ?_
      · have hr : RowR d := by
          simp only [List.mem_cons, List.not_mem_nil, or_false] at hd
          rcases hd with rfl | rfl | rfl | rfl | rfl | rfl | rfl | rfl | rfl | rfl | rfl | rfl | rfl | rfl | rfl | rfl | rfl
          all_goals first | exact row_n | exact row_s (by decide +kernel)
        obtain ⟨x, v, rfl, use⟩ := hr
        simp [F_law_read_so]
        refine use ?_
        simp
        exact hq
      · simp
        exact hq
  · exact hh.elim
end TS
set_option Elab.async false
set_option linter.all false
set_option maxRecDepth 100000
set_option maxHeartbeats 4000000
set_option exponentiation.threshold 10000
set_option synthInstance.maxSize 100000
set_option synthInstance.maxHeartbeats 0
namespace TS
open PySem PySem.Spec PyProof.Rows L2 LamX
def top (i : Nat) : Stmt := PySem.Challenge.pw_turnedshares_k12_texts_spoilt.main.body.getD i (.Pass ⟨0, 0, 0, 0⟩)
structure Gs (Z : Zx) (aPL aKW : Addr) : Prop where
  abs_ : Z.mg "abs" = none
  bool_ : Z.mg "bool" = none
  enumerate_ : Z.mg "enumerate" = none
  int_ : Z.mg "int" = none
  isinstance_ : Z.mg "isinstance" = none
  len_ : Z.mg "len" = none
  list_ : Z.mg "list" = none
  max_ : Z.mg "max" = none
  min_ : Z.mg "min" = none
  range_ : Z.mg "range" = none
  set_ : Z.mg "set" = none
  sorted_ : Z.mg "sorted" = none
  str_ : Z.mg "str" = none
  tuple_ : Z.mg "tuple" = none
  zip_ : Z.mg "zip" = none
  MOST_SIZE : ∃ t, Z.mg "MOST_SIZE" = some (.int (10 ^ 30) t)
  KIND_WORDS : Z.mg "KIND_WORDS" = some (.ref aKW) ∧ ∀ H, Rp Z H (.tup [.str "0", .str "1", .str "2", .str "01", .str "02", .str "12", .str "012"]) (.ref aKW)
  KIND_WORDS_ : Z.mg "KIND_WORDS" = some (.ref aKW) ∧ (∃ o, Z.K.lookup aKW = some o ∧ o.cls = .type "tuple" ∧ o.dict = none) ∧ ∀ H, SqT Z.K H aKW ((["0", "1", "2", "01", "02", "12", "012"] : List Str).map V.str)
  ShareError : ExcF Z "ShareError"
  InvalidText : ExcR Z "InvalidText" "line"
section
variable {P : Program} {w : World} {base : Heap} {Z : Zx} [GoodJ Z] {aPL aKW : Addr}
theorem Sc_is_whole : FnScope N_is_whole ["value", "low", "high"] (defScope (top 5)) := ⟨rfl, rfl, rfl, by decide +kernel, rfl, by decide +kernel, by decide +kernel⟩
theorem W_is_whole (g : Gs Z aPL aKW) {f : Addr} (cdv : Value) (A : Around) (o : List Env) (s : Shared) (H : Hp) (E : XK) (hr : Room 0 (A.deeper (envOfC "is_whole" (defScope (top 5)) s.heap.objs.size f cdv))) :
    PSs (CxD P w base Z N_is_whole "is_whole" (defScope (top 5)) f cdv A o s H E) (defBody (top 5)) (upS Z (WD E) t_is_whole) := by
  have S := Sc_is_whole
  exact (dss_one (ds_ret (de_and (de_callB cb_isi call_isi g.isinstance_ boot_isinstance (da_cons (de_var) (da_cons (de_tyN g.int_ boot_int) da_nil))) (de_and (de_not (de_callB
    cb_isi call_isi g.isinstance_ boot_isinstance (da_cons (de_var) (da_cons (de_tyN g.bool_ boot_bool) da_nil)))) (de_one (de_chain ok_le ok_le op_le op_le (de_var)
    (de_var) (de_var)))))))
theorem Sc_is_rising : FnScope N_is_rising ["value", "most"] (defScope (top 6)) := ⟨rfl, rfl, rfl, by decide +kernel, rfl, by decide +kernel, by decide +kernel⟩
theorem W_is_rising (g : Gs Z aPL aKW) (d_is_whole : Df P w base Z 1 "is_whole" 3 F_is_whole) {f : Addr} (cdv : Value) (A : Around) (o : List Env) (s : Shared) (H : Hp) (E : XK) (hr : Room 1 (A.deeper (envOfC "is_rising" (defScope (top 6)) s.heap.objs.size f cdv))) :
    PSs (CxD P w base Z N_is_rising "is_rising" (defScope (top 6)) f cdv A o s H E) (defBody (top 6)) (upS Z (WD E) t_is_rising) := by
  have S := Sc_is_rising
  exact (dss_cons (ds_if ((dw_or (dt_not (dt_val (de_callB cb_isi call_isi g.isinstance_ boot_isinstance (da_cons (de_var) (da_cons (de_tyN g.tuple_ boot_tuple) da_nil)))))
    (dw_or1 (dt_cmp ok_ne (op_neD (hu64 hr)) (de_ofN (de_lcN (own := [("part", 3)]) rfl S.nd (blkOk_by (N := N_is_rising) (sc := defScope (top 6)) (by decide +kernel))
    (di_seq (de_var)) (fun _ _ _ _ _ => (dg_name S.nd)) (fun _ _ _ _ _ => (dts_one (dt_not (dt_val (de_call d_is_whole takes0X (hr.mono (by decide)) (da_cons (de_var)
    (da_cons (de_int) (da_cons (de_var) da_nil)))))))) (fun _ _ _ _ _ => (de_var)))) (de_ofN (de_lstN da_nil)) (nomark _)))).pt) (dss_one (ds_ret (de_bl))) dss_nil)
    (dss_one (ds_ret (de_cmp ok_eq (op_eqD (hu64 hr)) (de_ofN (de_lcN (own := [("at", 2)]) rfl S.nd (blkOk_by (N := N_is_rising) (sc := defScope (top 6)) (by
    decide +kernel)) (di_range1 g.range_ (da_cons (de_op ok_sub op_sub (de_callB cb_len call_len g.len_ boot_len (da_cons (de_var) da_nil)) (de_int)) da_nil)) (fun _ _ _ _
    _ => (dg_name S.nd)) (fun _ _ _ _ _ => (dts_one (dt_cmp ok_ge op_ge (de_ix ok_ix ix_seq (de_var) (de_var) (fun _ _ => rfl)) (de_ix ok_ix ix_seq (de_var) (de_op ok_add
    or_addAll (de_var) (de_int)) (fun _ _ => rfl)) (nomark _)))) (fun _ _ _ _ _ => (de_var)))) (de_ofN (de_lstN da_nil)) (nomark _)))))
theorem Sc_is_part : FnScope N_is_part ["size", "number", "place", "value"] (defScope (top 7)) := ⟨rfl, rfl, rfl, by decide +kernel, rfl, by decide +kernel, by decide +kernel⟩
theorem W_is_part (g : Gs Z aPL aKW) (d_is_whole : Df P w base Z 1 "is_whole" 3 F_is_whole) (d_is_rising : Df P w base Z 2 "is_rising" 2 F_is_rising) {f : Addr} (cdv : Value) (A : Around) (o : List Env) (s : Shared) (H : Hp) (E : XK) (hr : Room 2 (A.deeper (envOfC "is_part" (defScope (top 7)) s.heap.objs.size f cdv))) :
    PSs (CxD P w base Z N_is_part "is_part" (defScope (top 7)) f cdv A o s H E) (defBody (top 7)) (upS Z (WD E) t_is_part) := by
  have S := Sc_is_part
  exact (dss_cons (ds_if (dt_cmp ok_eq (op_eqD (hu64 hr)) (de_var) (de_int) (nomark _)) (dss_one (ds_ret (de_call d_is_whole (L2N.takes_of rfl rfl rfl rfl) (hr.mono (by decide))
    (da_cons (de_var) (da_cons (de_int) (da_cons (de_int) da_nil)))))) dss_nil) (dss_cons (ds_if (dt_cmp ok_eq (op_eqD (hu64 hr)) (de_var) (de_int) (nomark _)) (dss_one
    (ds_ret (de_call d_is_whole (L2N.takes_of rfl rfl rfl rfl) (hr.mono (by decide)) (da_cons (de_var) (da_cons (de_int) (da_cons (de_op ok_sub op_sub (de_var) (de_int))
    da_nil)))))) dss_nil) (dss_cons (ds_if (dt_cmp ok_eq (op_eqD (hu64 hr)) (de_var) (de_int) (nomark _)) (dss_one (ds_ret (de_call d_is_whole (L2N.takes_of rfl rfl rfl
    rfl) (hr.mono (by decide)) (da_cons (de_var) (da_cons (de_int) (da_cons (de_var) da_nil)))))) dss_nil) (dss_cons (ds_if (dt_cmp ok_eq (op_eqD (hu64 hr)) (de_var)
    (de_int) (nomark _)) (dss_one (ds_ret (de_or (de_cmp ok_isN op_isN (de_var) (de_non) (nomark _)) (de_one (de_call d_is_whole (L2N.takes_of rfl rfl rfl rfl) (hr.mono
    (by decide)) (da_cons (de_var) (da_cons (de_int) (da_cons (de_op ok_sub op_sub (de_var) (de_int)) da_nil)))))))) dss_nil) (dss_cons (ds_if (dt_cmp ok_eq (op_eqD (hu64
    hr)) (de_var) (de_int) (nomark _)) (dss_one (ds_ret (de_and (de_call d_is_rising (L2N.takes_of rfl rfl rfl rfl) (hr.mono (by decide)) (da_cons (de_var) (da_cons
    (de_int) da_nil))) (de_one (de_cmp ok_ne (op_neD (hu64 hr)) (de_var) (de_tup da_nil) (nomark _)))))) dss_nil) (dss_one (ds_ret (de_callB cb_isi call_isi g.isinstance_
    boot_isinstance (da_cons (de_var) (da_cons (de_tyN g.bool_ boot_bool) da_nil))))))))))
theorem Sc_is_way : FnScope N_is_way ["size", "number", "value"] (defScope (top 8)) := ⟨rfl, rfl, rfl, by decide +kernel, rfl, by decide +kernel, by decide +kernel⟩
theorem W_is_way (g : Gs Z aPL aKW) (d_is_part : Df P w base Z 3 "is_part" 4 F_is_part) {f : Addr} (cdv : Value) (A : Around) (o : List Env) (s : Shared) (H : Hp) (E : XK) (hr : Room 3 (A.deeper (envOfC "is_way" (defScope (top 8)) s.heap.objs.size f cdv))) :
    PSs (CxD P w base Z N_is_way "is_way" (defScope (top 8)) f cdv A o s H E) (defBody (top 8)) (upS Z (WD E) t_is_way) := by
  have S := Sc_is_way
  exact (dss_cons (ds_if ((dw_or (dt_not (dt_val (de_callB cb_isi call_isi g.isinstance_ boot_isinstance (da_cons (de_var) (da_cons (de_tyN g.tuple_ boot_tuple) da_nil)))))
    (dw_or1 (dt_cmp ok_ne (op_neD (hu64 hr)) (de_callB cb_len call_len g.len_ boot_len (da_cons (de_var) da_nil)) (de_int) (nomark _)))).pt) (dss_one (ds_ret (de_bl)))
    dss_nil) (dss_one (ds_ret (de_cmp ok_eq (op_eqD (hu64 hr)) (de_ofN (de_lcN (own := [("place", 3)]) rfl S.nd (blkOk_by (N := N_is_way) (sc := defScope (top 8)) (by
    decide +kernel)) (di_range1 g.range_ (da_cons (de_int) da_nil)) (fun _ _ _ _ _ => (dg_name S.nd)) (fun _ _ _ _ _ => (dts_one (dt_not (dt_val (de_call d_is_part takes0X
    (hr.mono (by decide)) (da_cons (de_var) (da_cons (de_var) (da_cons (de_var) (da_cons (de_ix ok_ix ix_seq (de_var) (de_var) (fun _ _ => rfl)) da_nil))))))))) (fun _ _ _
    _ _ => (de_var)))) (de_ofN (de_lstN da_nil)) (nomark _)))))
theorem Sc_has_house : FnScope N_has_house ["value"] (defScope (top 9)) := ⟨rfl, rfl, rfl, by decide +kernel, rfl, by decide +kernel, by decide +kernel⟩
theorem W_has_house (g : Gs Z aPL aKW) (d_is_whole : Df P w base Z 1 "is_whole" 3 F_is_whole) (d_is_way : Df P w base Z 4 "is_way" 3 F_is_way) {f : Addr} (cdv : Value) (A : Around) (o : List Env) (s : Shared) (H : Hp) (E : XK) (hr : Room 4 (A.deeper (envOfC "has_house" (defScope (top 9)) s.heap.objs.size f cdv))) :
    PSs (CxD P w base Z N_has_house "has_house" (defScope (top 9)) f cdv A o s H E) (defBody (top 9)) (upS Z (WD E) t_has_house) := by
  have S := Sc_has_house
  exact (dss_cons (ds_if ((dw_or (dt_not (dt_val (de_callB cb_isi call_isi g.isinstance_ boot_isinstance (da_cons (de_var) (da_cons (de_tyN g.tuple_ boot_tuple) da_nil))))) (dw_or
    (dt_cmp ok_ne (op_neD (hu64 hr)) (de_callB cb_len call_len g.len_ boot_len (da_cons (de_var) da_nil)) (de_int) (nomark _)) (dw_or1 (dt_not (dt_val (de_call d_is_whole
    (L2N.takes_of rfl rfl rfl rfl) (hr.mono (by decide)) (da_cons (de_ix ok_ix ix_seq (de_var) (de_int) (fun _ _ => rfl)) (da_cons (de_int) (da_cons (de_gint g.MOST_SIZE)
    da_nil))))))))).pt) (dss_one (ds_ret (de_bl))) dss_nil) (dss_cons (ds_if ((dw_or (dt_not (dt_val (de_callB cb_isi call_isi g.isinstance_ boot_isinstance (da_cons
    (de_ix ok_ix ix_seq (de_var) (de_int) (fun _ _ => rfl)) (da_cons (de_tyN g.tuple_ boot_tuple) da_nil))))) (dw_or1 (dt_not (dt_chain ok_le ok_le op_le op_le (de_int)
    (de_callB cb_len call_len g.len_ boot_len (da_cons (de_ix ok_ix ix_seq (de_var) (de_int) (fun _ _ => rfl)) da_nil)) (de_int))))).pt) (dss_one (ds_ret (de_bl)))
    dss_nil) (dss_one (ds_ret (de_cmp ok_eq (op_eqD (hu64 hr)) (de_ofN (de_lcN (own := [("number", 1)]) rfl S.nd (blkOk_by (N := N_has_house) (sc := defScope (top 9)) (by
    decide +kernel)) (di_range1 g.range_ (da_cons (de_callB cb_len call_len g.len_ boot_len (da_cons (de_ix ok_ix ix_seq (de_var) (de_int) (fun _ _ => rfl)) da_nil))
    da_nil)) (fun _ _ _ _ _ => (dg_name S.nd)) (fun _ _ _ _ _ => (dts_one (dt_not (dt_val (de_call d_is_way takes0X (hr.mono (by decide)) (da_cons (de_ix ok_ix ix_seq
    (de_var) (de_int) (fun _ _ => rfl)) (da_cons (de_var) (da_cons (de_ix ok_ix ix_seq (de_ix ok_ix ix_seq (de_var) (de_int) (fun _ _ => rfl)) (de_var) (fun _ _ => rfl))
    da_nil)))))))) (fun _ _ _ _ _ => (de_var)))) (de_ofN (de_lstN da_nil)) (nomark _))))))
theorem Sc_number_of : FnScope N_number_of ["word", "low"] (defScope (top 12)) := ⟨rfl, rfl, rfl, by decide +kernel, rfl, by decide +kernel, by decide +kernel⟩
theorem W_number_of (g : Gs Z aPL aKW) {f : Addr} (cdv : Value) (A : Around) (o : List Env) (s : Shared) (H : Hp) (E : XK) (hr : Room 0 (A.deeper (envOfC "number_of" (defScope (top 12)) s.heap.objs.size f cdv))) :
    PSs (CxD P w base Z N_number_of "number_of" (defScope (top 12)) f cdv A o s H E) (defBody (top 12)) (upS Z (WD E) t_number_of) := by
  have S := Sc_number_of
  exact (dss_cons (ds_if ((dw_or (dt_cmp ok_eq (op_eqD (hu64 hr)) (de_var) (de_str) (nomark _)) (dw_or (dt_cmp ok_gt op_gt (de_callB cb_len call_len g.len_ boot_len (da_cons
    (de_var) da_nil)) (de_int) (nomark _)) (dw_or1 (dt_cmp ok_ne (op_neD (hu64 hr)) (de_ofN (de_lcN (own := [("sign", 3)]) rfl S.nd (blkOk_by (N := N_number_of) (sc :=
    defScope (top 12)) (by decide +kernel)) (di_str (de_var)) (fun _ _ _ _ _ => (dg_name S.nd)) (fun _ _ _ _ _ => (dts_one (dt_cmp ok_notIn or_notIn (de_var) (de_str) (by
    with_unfolding_all rfl)))) (fun _ _ _ _ _ => (de_var)))) (de_ofN (de_lstN da_nil)) (nomark _))))).pt) (dss_one (ds_ret (de_non))) dss_nil) (dss_cons (ds_set S.nd
    (de_callTy cb_intT cr_intT g.int_ boot_int (da_cons (de_var) da_nil))) (dss_one (ds_ret (de_ifE ((dw_and (dt_cmp ok_eq (op_eqD (hu64 hr)) (de_callTy cb_strI
    call_str_int g.str_ boot_str (da_cons (de_var) da_nil)) (de_var) (nomark _)) (dw_and1 (dt_chain ok_le ok_le op_le op_le (de_var) (de_var) (de_gint g.MOST_SIZE)))).pt)
    (de_var) (de_non))))))
theorem Sc_size_of : FnScope N_size_of ["line"] (defScope (top 13)) := ⟨rfl, rfl, rfl, by decide +kernel, rfl, by decide +kernel, by decide +kernel⟩
theorem W_size_of (g : Gs Z aPL aKW) (d_number_of : Df P w base Z 1 "number_of" 2 F_number_of) {f : Addr} (cdv : Value) (A : Around) (o : List Env) (s : Shared) (H : Hp) (E : XK) (hr : Room 1 (A.deeper (envOfC "size_of" (defScope (top 13)) s.heap.objs.size f cdv))) :
    PSs (CxD P w base Z N_size_of "size_of" (defScope (top 13)) f cdv A o s H E) (defBody (top 13)) (upS Z (WD E) t_size_of) := by
  have S := Sc_size_of
  exact (dss_cons (ds_set S.nd (de_ofN (de_split (de_var) (de_str)))) (dss_one (ds_ret (de_ifE ((dw_and (dt_cmp ok_eq (op_eqD (hu64 hr)) (de_callB cb_len call_len g.len_ boot_len
    (da_cons (de_var) da_nil)) (de_int) (nomark _)) (dw_and1 (dt_cmp ok_eq (op_eqD (hu64 hr)) (de_ix ok_ix ix_seq (de_var) (de_int) (fun _ _ => rfl)) (de_str) (nomark
    _)))).pt) (de_call d_number_of (L2N.takes_of rfl rfl rfl rfl) (hr.mono (by decide)) (da_cons (de_ix ok_ix ix_seq (de_var) (de_int) (fun _ _ => rfl)) (da_cons (de_int)
    da_nil))) (de_non)))))
theorem Sc_way_of : FnScope N_way_of ["line"] (defScope (top 14)) := ⟨rfl, rfl, rfl, by decide +kernel, rfl, by decide +kernel, by decide +kernel⟩
theorem W_way_of (g : Gs Z aPL aKW) (d_number_of : Df P w base Z 1 "number_of" 2 F_number_of) (d_is_way : Df P w base Z 4 "is_way" 3 F_is_way) {f : Addr} (cdv : Value) (A : Around) (o : List Env) (s : Shared) (H : Hp) (E : XK) (hr : Room 4 (A.deeper (envOfC "way_of" (defScope (top 14)) s.heap.objs.size f cdv))) :
    PSs (CxD P w base Z N_way_of "way_of" (defScope (top 14)) f cdv A o s H E) (defBody (top 14)) (upS Z (WD E) t_way_of) := by
  have S := Sc_way_of
  exact (dss_cons (ds_set S.nd (de_ofN (de_split (de_var) (de_str)))) (dss_cons (ds_if ((dw_or (dt_cmp ok_ne (op_neD (hu64 hr)) (de_callB cb_len call_len g.len_ boot_len (da_cons
    (de_var) da_nil)) (de_int) (nomark _)) (dw_or (dt_cmp ok_ne (op_neD (hu64 hr)) (de_ix ok_ix ix_seq (de_var) (de_int) (fun _ _ => rfl)) (de_str) (nomark _)) (dw_or
    (dt_cmp ok_notIn or_notIn (de_ix ok_ix ix_seq (de_var) (de_int) (fun _ _ => rfl)) (de_gdat (v := .ref aKW) g.KIND_WORDS.1 rfl g.KIND_WORDS.2) (by with_unfolding_all
    rfl)) (dw_or1 (dt_cmp ok_notIn or_notIn (de_ix ok_ix ix_seq (de_var) (de_int) (fun _ _ => rfl)) (de_tup (da_cons (de_str) (da_cons (de_str) da_nil))) (by
    with_unfolding_all rfl)))))).pt) (dss_one (ds_ret (de_non))) dss_nil) (dss_cons (ds_if (dt_cmp ok_notIn or_notIn (de_ix ok_ix ix_seq (de_var) (de_int) (fun _ _ =>
    rfl)) (de_tup (da_cons (de_str) (da_cons (de_str) (da_cons (de_str) da_nil)))) (by with_unfolding_all rfl)) (dss_one (ds_ret (de_non))) dss_nil) (dss_cons (ds_set S.nd
    (de_ifE (dt_cmp ok_eq (op_eqD (hu64 hr)) (de_ix ok_ix ix_seq (de_var) (de_int) (fun _ _ => rfl)) (de_str) (nomark _)) (de_non) (de_callTy cb_intT cr_intT g.int_
    boot_int (da_cons (de_ix ok_ix ix_seq (de_var) (de_int) (fun _ _ => rfl)) da_nil)))) (dss_cons (ds_set S.nd (de_callTy cb_tuple call_tuple_of g.tuple_ boot_tuple
    (da_cons (de_ofN (de_lcN (own := [("sign", 7)]) rfl S.nd (blkOk_by (N := N_way_of) (sc := defScope (top 14)) (by decide +kernel)) (di_str (de_ix ok_ix ix_seq (de_var)
    (de_int) (fun _ _ => rfl))) (fun _ _ _ _ _ => (dg_name S.nd)) (fun _ _ _ _ _ => dts_nil) (fun _ _ _ _ _ => (de_callTy cb_intT cr_intT g.int_ boot_int (da_cons (de_var)
    da_nil))))) da_nil))) (dss_cons (ds_setLc (own := [("word", 6)]) rfl S.nd (blkOk_by (N := N_way_of) (sc := defScope (top 14)) (by decide +kernel)) (di_seq (de_slice
    (de_var) (do_some (de_int)) (do_some (de_int)))) (fun _ _ _ _ _ => (dg_name S.nd)) (fun _ _ _ _ _ => dts_nil) (fun _ _ _ _ _ => (de_call d_number_of takes0X (hr.mono
    (by decide)) (da_cons (de_var) (da_cons (de_int) da_nil)))) (sw_true rfl rfl rfl (by decide +kernel))) (dss_cons (ds_set S.nd (de_tup (da_cons (de_ix ok_ix ix_seq
    (de_var) (de_int) (fun _ _ => rfl)) (da_cons (de_ix ok_ix ix_seq (de_var) (de_int) (fun _ _ => rfl)) (da_cons (de_ix ok_ix ix_seq (de_var) (de_int) (fun _ _ => rfl))
    (da_cons (de_var) (da_cons (de_var) (da_cons (de_cmp ok_eq (op_eqD (hu64 hr)) (de_ix ok_ix ix_seq (de_var) (de_int) (fun _ _ => rfl)) (de_str) (nomark _))
    da_nil)))))))) (dss_one (ds_ret (de_ifE (dt_val (de_call d_is_way (L2N.takes_of rfl rfl rfl rfl) (hr.mono (by decide)) (da_cons (de_gint g.MOST_SIZE) (da_cons (de_int)
    (da_cons (de_var) da_nil))))) (de_var) (de_non)))))))))))
theorem Sc_read_house : FnScope N_read_house ["value"] (defScope (top 15)) := ⟨rfl, rfl, rfl, by decide +kernel, rfl, by decide +kernel, by decide +kernel⟩
theorem W_read_house (g : Gs Z aPL aKW) (x_InvalidText : ExcP P w base Z 1 "InvalidText" "line") (d_size_of : Df P w base Z 2 "size_of" 1 F_size_of) (d_way_of : Df P w base Z 5 "way_of" 1 F_way_of) (d_has_house : Df P w base Z 5 "has_house" 1 F_has_house) {f : Addr} (cdv : Value) (A : Around) (o : List Env) (s : Shared) (H : Hp) (E : XK) (hr : Room 5 (A.deeper (envOfC "read_house" (defScope (top 15)) s.heap.objs.size f cdv))) :
    PSs (CxD P w base Z N_read_house "read_house" (defScope (top 15)) f cdv A o s H E) (defBody (top 15)) (upS Z (WD E) t_read_house) := by
  have S := Sc_read_house
  exact (dss_cons (ds_if (dt_not (dt_val (de_callB cb_isi call_isi g.isinstance_ boot_isinstance (da_cons (de_var) (da_cons (de_tyN g.str_ boot_str) da_nil))))) (dss_one
    (ds_raiseP x_InvalidText (de_int) (hr.mono (by decide)) rfl (L2N.takes_of rfl rfl rfl rfl))) dss_nil) (dss_cons (ds_set S.nd (de_ofN (de_split (de_var) (de_str))))
    (dss_cons (ds_for (passes_of rfl) rfl (di_enum g.enumerate_ (da_cons (de_var) da_nil)) (dg_tup rfl (dgs_cons (dg_name S.nd) (dgs_cons (dg_name S.nd) dgs_nil)))
    (dss_one (ds_if ((dw_and (dt_cmp ok_isN op_isN (de_call d_size_of (L2N.takes_of rfl rfl rfl rfl) (hr.mono (by decide)) (da_cons (de_var) da_nil)) (de_non) (nomark _))
    (dw_and1 (dt_cmp ok_isN op_isN (de_call d_way_of (L2N.takes_of rfl rfl rfl rfl) (hr.mono (by decide)) (da_cons (de_var) da_nil)) (de_non) (nomark _)))).pt) (dss_one
    (ds_raiseP x_InvalidText (de_op ok_add or_addAll (de_var) (de_int)) (hr.mono (by decide)) rfl (L2N.takes_of rfl rfl rfl rfl))) dss_nil))) (dss_cons (ds_set S.nd
    (de_tup (da_cons (de_call d_size_of (L2N.takes_of rfl rfl rfl rfl) (hr.mono (by decide)) (da_cons (de_ix ok_ix ix_seq (de_var) (de_int) (fun _ _ => rfl)) da_nil))
    (da_cons (de_callTy cb_tuple call_tuple_of g.tuple_ boot_tuple (da_cons (de_ofN (de_lcN (own := [("line", 4)]) rfl S.nd (blkOk_by (N := N_read_house) (sc := defScope
    (top 15)) (by decide +kernel)) (di_seq (de_slice (de_var) (do_some (de_int)) do_none)) (fun _ _ _ _ _ => (dg_name S.nd)) (fun _ _ _ _ _ => dts_nil) (fun _ _ _ _ _ =>
    (de_call d_way_of takes0X (hr.mono (by decide)) (da_cons (de_var) da_nil))))) da_nil)) da_nil)))) (dss_cons (ds_if (dt_not (dt_val (de_call d_has_house (L2N.takes_of
    rfl rfl rfl rfl) (hr.mono (by decide)) (da_cons (de_var) da_nil)))) (dss_one (ds_raiseP x_InvalidText (de_op ok_add or_addAll (de_callB cb_len call_len g.len_ boot_len
    (da_cons (de_var) da_nil)) (de_int)) (hr.mono (by decide)) rfl (L2N.takes_of rfl rfl rfl rfl))) dss_nil) (dss_one (ds_ret (de_var))))))))
theorem Sc_law_vat : FnScope N_law_vat ["script", "k"] (defScope (top 17)) := ⟨rfl, rfl, rfl, by decide +kernel, rfl, by decide +kernel, by decide +kernel⟩
theorem W_law_vat (g : Gs Z aPL aKW) {f : Addr} (cdv : Value) (A : Around) (o : List Env) (s : Shared) (H : Hp) (E : XK) (hr : Room 0 (A.deeper (envOfC "_law_vat" (defScope (top 17)) s.heap.objs.size f cdv))) :
    PSs (CxD P w base Z N_law_vat "_law_vat" (defScope (top 17)) f cdv A o s H E) (defBody (top 17)) (upSN Z (WD E) t_law_vat) := by
  have S := Sc_law_vat
  exact (dssN_cons (ds_set S.nd (de_op ok_add or_addAll (de_op ok_mulI or_mulI (de_int) (de_var)) (de_int))) (fun _ _ _ h => h) (dssN_cons (ds_if (dt_cmp ok_lt op_lt (de_var)
    (de_callB cb_len call_len g.len_ boot_len (da_cons (de_var) da_nil)) (nomark _)) (dss_one (ds_set S.nd (de_callB cb_abs call_abs g.abs_ boot_abs (da_cons (de_callTy
    cb_int call_int1 g.int_ boot_int (da_cons (de_ix ok_ix ix_seq (de_var) (de_var) (fun _ _ => rfl)) da_nil)) da_nil)))) dss_nil) (fun _ _ _ h => h) (dssN_ret (de_lstN
    (da_cons (de_ifE (dt_cmp ok_ge op_ge (de_var) (de_op ok_pow op_pow (de_int) (de_int)) (nomark _)) (de_var) (de_int)) (da_cons (de_op ok_add or_addAll (de_op ok_mod
    op_mod (de_callTy cb_int call_int1 g.int_ boot_int (da_cons (de_op ok_add or_addAll (de_op ok_add or_addAll (de_op ok_mulI or_mulI (de_var) (de_int)) (de_op ok_mulI
    or_mulI (de_int) (de_var))) (de_int)) da_nil)) (de_int)) (de_int)) da_nil))))))
theorem Sc_law_under : FnScope N_law_under ["vat", "many"] (defScope (top 18)) := ⟨rfl, rfl, rfl, by decide +kernel, rfl, by decide +kernel, by decide +kernel⟩
theorem W_law_under (g : Gs Z aPL aKW) {f : Addr} (cdv : Value) (A : Around) (o : List Env) (s : Shared) (H : Hp) (E : XK) (hr : Room 0 (A.deeper (envOfC "_law_under" (defScope (top 18)) s.heap.objs.size f cdv))) :
    PSs (CxD P w base Z N_law_under "_law_under" (defScope (top 18)) f cdv A o s H E) (defBody (top 18)) (upS Z (WD E) t_law_under) := by
  have S := Sc_law_under
  exact (dss_cons (ds_if (dt_cmp ok_gt op_gt (de_ixH (de_int) (fun _ _ => rfl)) (de_int) (nomark _)) (dss_cons (ds_set S.nd (de_op ok_mod op_mod (de_callTy cb_int call_int1 g.int_
    boot_int (da_cons (de_ixH (de_int) (fun _ _ => rfl)) da_nil)) (de_var))) (dss_cons (ds_sto (de_op ok_div op_fdivW (de_ixH (de_int) (fun _ _ => rfl)) (de_var))
    (de_int)) (dss_one (ds_ret (de_var))))) dss_nil) (dss_cons (ds_sto (de_op ok_mod op_mod (de_callTy cb_int call_int1 g.int_ boot_int (da_cons (de_op ok_add or_addAll
    (de_op ok_mulI or_mulI (de_ixH (de_int) (fun _ _ => rfl)) (de_int)) (de_int)) da_nil)) (de_int)) (de_int)) (dss_cons (ds_set S.nd (de_op ok_mod op_mod (de_callTy
    cb_int call_int1 g.int_ boot_int (da_cons (de_op ok_mulI or_mulI (de_ixH (de_int) (fun _ _ => rfl)) (de_op ok_add or_addAll (de_op ok_div op_fdivW (de_ixH (de_int)
    (fun _ _ => rfl)) (de_int)) (de_int))) da_nil)) (de_int))) (dss_one (ds_ret (de_op ok_mod op_mod (de_callTy cb_int call_int1 g.int_ boot_int (da_cons (de_op ok_div
    op_fdivW (de_var) (de_int)) da_nil)) (de_var)))))))
theorem Sc_law_some : FnScope N_law_some ["vat", "things"] (defScope (top 19)) := ⟨rfl, rfl, rfl, by decide +kernel, rfl, by decide +kernel, by decide +kernel⟩
theorem W_law_some (g : Gs Z aPL aKW) (d_law_under : Df P w base Z 1 "_law_under" 2 F_law_under) {f : Addr} (cdv : Value) (A : Around) (o : List Env) (s : Shared) (H : Hp) (E : XK) (hr : Room 1 (A.deeper (envOfC "_law_some" (defScope (top 19)) s.heap.objs.size f cdv))) :
    PSs (CxD P w base Z N_law_some "_law_some" (defScope (top 19)) f cdv A o s H E) (defBody (top 19)) (upS Z (WD E) t_law_some) := by
  have S := Sc_law_some
  exact (dss_one (ds_ret (de_ix ok_ix ix_seq (de_var) (de_callR d_law_under (L2N.takes_of rfl rfl rfl rfl) (hr.mono (by decide)) (da_cons (de_callB cb_len call_len g.len_ boot_len
    (da_cons (de_var) da_nil)) da_nil)) (fun _ _ => rfl))))
theorem Sc_law_is_whole : FnScope N_law_is_whole ["value", "low", "high"] (defScope (top 20)) := ⟨rfl, rfl, rfl, by decide +kernel, rfl, by decide +kernel, by decide +kernel⟩
theorem W_law_is_whole (g : Gs Z aPL aKW) {f : Addr} (cdv : Value) (A : Around) (o : List Env) (s : Shared) (H : Hp) (E : XK) (hr : Room 0 (A.deeper (envOfC "_law_is_whole" (defScope (top 20)) s.heap.objs.size f cdv))) :
    PSs (CxD P w base Z N_law_is_whole "_law_is_whole" (defScope (top 20)) f cdv A o s H E) (defBody (top 20)) (upS Z (WD E) t_law_is_whole) := by
  have S := Sc_law_is_whole
  exact (dss_one (ds_ret (de_and (de_callB cb_isi call_isi g.isinstance_ boot_isinstance (da_cons (de_var) (da_cons (de_tyN g.int_ boot_int) da_nil))) (de_and (de_not (de_callB
    cb_isi call_isi g.isinstance_ boot_isinstance (da_cons (de_var) (da_cons (de_tyN g.bool_ boot_bool) da_nil)))) (de_one (de_chain ok_le ok_le op_le op_le (de_var)
    (de_var) (de_var)))))))
theorem Sc_law_kinds_good : FnScope N_law_kinds_good ["value"] (defScope (top 21)) := ⟨rfl, rfl, rfl, by decide +kernel, rfl, by decide +kernel, by decide +kernel⟩
theorem W_law_kinds_good (g : Gs Z aPL aKW) (d_law_is_whole : Df P w base Z 1 "_law_is_whole" 3 F_law_is_whole) {f : Addr} (cdv : Value) (A : Around) (o : List Env) (s : Shared) (H : Hp) (E : XK) (hr : Room 1 (A.deeper (envOfC "_law_kinds_good" (defScope (top 21)) s.heap.objs.size f cdv))) :
    PSs (CxD P w base Z N_law_kinds_good "_law_kinds_good" (defScope (top 21)) f cdv A o s H E) (defBody (top 21)) (upS Z (WD E) t_law_kinds_good) := by
  have S := Sc_law_kinds_good
  exact (dss_cons (ds_if ((dw_or (dt_not (dt_val (de_callB cb_isi call_isi g.isinstance_ boot_isinstance (da_cons (de_var) (da_cons (de_tyN g.tuple_ boot_tuple) da_nil)))))
    (dw_or1 (dt_not (dt_chain ok_le ok_le op_le op_le (de_int) (de_callB cb_len call_len g.len_ boot_len (da_cons (de_var) da_nil)) (de_int))))).pt) (dss_one (ds_ret
    (de_bl))) dss_nil) (dss_cons (ds_if (dt_cmp ok_ne (op_neD (hu64 hr)) (de_ofN (de_lcN (own := [("kind", 1)]) rfl S.nd (blkOk_by (N := N_law_kinds_good) (sc := defScope
    (top 21)) (by decide +kernel)) (di_seq (de_var)) (fun _ _ _ _ _ => (dg_name S.nd)) (fun _ _ _ _ _ => (dts_one (dt_not (dt_val (de_call d_law_is_whole takes0X (hr.mono
    (by decide)) (da_cons (de_var) (da_cons (de_int) (da_cons (de_int) da_nil)))))))) (fun _ _ _ _ _ => (de_var)))) (de_ofN (de_lstN da_nil)) (nomark _)) (dss_one (ds_ret
    (de_bl))) dss_nil) (dss_one (ds_ret (de_cmp ok_eq (op_eqD (hu64 hr)) (de_ofN (de_listN g.list_ (da_cons (de_var) da_nil))) (de_ofN (de_sortSet rfl g.sorted_ g.set_
    (de_var))) (nomark _))))))
theorem Sc_law_good_part : FnScope N_law_good_part ["size", "number", "name", "value"] (defScope (top 22)) := ⟨rfl, rfl, rfl, by decide +kernel, rfl, by decide +kernel, by decide +kernel⟩
theorem W_law_good_part (g : Gs Z aPL aKW) (d_law_is_whole : Df P w base Z 1 "_law_is_whole" 3 F_law_is_whole) (d_law_kinds_good : Df P w base Z 2 "_law_kinds_good" 1 F_law_kinds_good) {f : Addr} (cdv : Value) (A : Around) (o : List Env) (s : Shared) (H : Hp) (E : XK) (hr : Room 2 (A.deeper (envOfC "_law_good_part" (defScope (top 22)) s.heap.objs.size f cdv))) :
    PSs (CxD P w base Z N_law_good_part "_law_good_part" (defScope (top 22)) f cdv A o s H E) (defBody (top 22)) (upS Z (WD E) t_law_good_part) := by
  have S := Sc_law_good_part
  exact (dss_cons (ds_if (dt_cmp ok_eq (op_eqD (hu64 hr)) (de_var) (de_str) (nomark _)) (dss_one (ds_ret (de_call d_law_is_whole (L2N.takes_of rfl rfl rfl rfl) (hr.mono (by
    decide)) (da_cons (de_var) (da_cons (de_int) (da_cons (de_int) da_nil)))))) dss_nil) (dss_cons (ds_if (dt_cmp ok_eq (op_eqD (hu64 hr)) (de_var) (de_str) (nomark _))
    (dss_one (ds_ret (de_call d_law_is_whole (L2N.takes_of rfl rfl rfl rfl) (hr.mono (by decide)) (da_cons (de_var) (da_cons (de_int) (da_cons (de_op ok_sub op_sub
    (de_var) (de_int)) da_nil)))))) dss_nil) (dss_cons (ds_if (dt_cmp ok_eq (op_eqD (hu64 hr)) (de_var) (de_str) (nomark _)) (dss_one (ds_ret (de_call d_law_is_whole
    (L2N.takes_of rfl rfl rfl rfl) (hr.mono (by decide)) (da_cons (de_var) (da_cons (de_int) (da_cons (de_var) da_nil)))))) dss_nil) (dss_cons (ds_if (dt_cmp ok_eq (op_eqD
    (hu64 hr)) (de_var) (de_str) (nomark _)) (dss_one (ds_ret (de_or (de_cmp ok_isN op_isN (de_var) (de_non) (nomark _)) (de_one (de_call d_law_is_whole (L2N.takes_of rfl
    rfl rfl rfl) (hr.mono (by decide)) (da_cons (de_var) (da_cons (de_int) (da_cons (de_op ok_sub op_sub (de_var) (de_int)) da_nil)))))))) dss_nil) (dss_one (ds_ret
    (de_ifE (dt_cmp ok_eq (op_eqD (hu64 hr)) (de_var) (de_str) (nomark _)) (de_call d_law_kinds_good (L2N.takes_of rfl rfl rfl rfl) (hr.mono (by decide)) (da_cons (de_var)
    da_nil)) (de_callB cb_isi call_isi g.isinstance_ boot_isinstance (da_cons (de_var) (da_cons (de_tyN g.bool_ boot_bool) da_nil))))))))))
theorem Sc_law_part_names : FnScope N_law_part_names [] (defScope (top 23)) := ⟨rfl, rfl, rfl, by decide +kernel, rfl, by decide +kernel, by decide +kernel⟩
theorem W_law_part_names (g : Gs Z aPL aKW) {f : Addr} (cdv : Value) (A : Around) (o : List Env) (s : Shared) (H : Hp) (E : XK) (hr : Room 0 (A.deeper (envOfC "_law_part_names" (defScope (top 23)) s.heap.objs.size f cdv))) :
    PSs (CxD P w base Z N_law_part_names "_law_part_names" (defScope (top 23)) f cdv A o s H E) (defBody (top 23)) (upS Z (WD E) t_law_part_names) := by
  have S := Sc_law_part_names
  exact (dss_one (ds_ret (de_ofN (de_lstN (da_cons (de_str) (da_cons (de_str) (da_cons (de_str) (da_cons (de_str) (da_cons (de_str) (da_cons (de_str) da_nil))))))))))
theorem Sc_law_is_house : FnScope N_law_is_house ["value"] (defScope (top 24)) := ⟨rfl, rfl, rfl, by decide +kernel, rfl, by decide +kernel, by decide +kernel⟩
theorem W_law_is_house (g : Gs Z aPL aKW) (d_law_is_whole : Df P w base Z 1 "_law_is_whole" 3 F_law_is_whole) (d_law_part_names : Df P w base Z 1 "_law_part_names" 0 F_law_part_names) (d_law_good_part : Df P w base Z 3 "_law_good_part" 4 F_law_good_part) {f : Addr} (cdv : Value) (A : Around) (o : List Env) (s : Shared) (H : Hp) (E : XK) (hr : Room 3 (A.deeper (envOfC "_law_is_house" (defScope (top 24)) s.heap.objs.size f cdv))) :
    PSs (CxD P w base Z N_law_is_house "_law_is_house" (defScope (top 24)) f cdv A o s H E) (defBody (top 24)) (upS Z (WD E) t_law_is_house) := by
  have S := Sc_law_is_house
  exact (dss_cons (ds_if ((dw_or (dt_not (dt_val (de_callB cb_isi call_isi g.isinstance_ boot_isinstance (da_cons (de_var) (da_cons (de_tyN g.tuple_ boot_tuple) da_nil))))) (dw_or
    (dt_cmp ok_ne (op_neD (hu64 hr)) (de_callB cb_len call_len g.len_ boot_len (da_cons (de_var) da_nil)) (de_int) (nomark _)) (dw_or1 (dt_not (dt_val (de_call
    d_law_is_whole (L2N.takes_of rfl rfl rfl rfl) (hr.mono (by decide)) (da_cons (de_ix ok_ix ix_seq (de_var) (de_int) (fun _ _ => rfl)) (da_cons (de_int) (da_cons (de_op
    ok_pow op_pow (de_int) (de_int)) da_nil))))))))).pt) (dss_one (ds_ret (de_bl))) dss_nil) (dss_cons (ds_if ((dw_or (dt_not (dt_val (de_callB cb_isi call_isi
    g.isinstance_ boot_isinstance (da_cons (de_ix ok_ix ix_seq (de_var) (de_int) (fun _ _ => rfl)) (da_cons (de_tyN g.tuple_ boot_tuple) da_nil))))) (dw_or1 (dt_not
    (dt_chain ok_le ok_le op_le op_le (de_int) (de_callB cb_len call_len g.len_ boot_len (da_cons (de_ix ok_ix ix_seq (de_var) (de_int) (fun _ _ => rfl)) da_nil))
    (de_int))))).pt) (dss_one (ds_ret (de_bl))) dss_nil) (dss_cons (ds_for (passes_of rfl) rfl (di_enum g.enumerate_ (da_cons (de_ix ok_ix ix_seq (de_var) (de_int) (fun _
    _ => rfl)) da_nil)) (dg_tup rfl (dgs_cons (dg_name S.nd) (dgs_cons (dg_name S.nd) dgs_nil))) (dss_cons (ds_if ((dw_or (dt_not (dt_val (de_callB cb_isi call_isi
    g.isinstance_ boot_isinstance (da_cons (de_var) (da_cons (de_tyN g.tuple_ boot_tuple) da_nil))))) (dw_or1 (dt_cmp ok_ne (op_neD (hu64 hr)) (de_callB cb_len call_len
    g.len_ boot_len (da_cons (de_var) da_nil)) (de_int) (nomark _)))).pt) (dss_one (ds_ret (de_bl))) dss_nil) (dss_one (ds_for (passes_of rfl) rfl (di_zip g.zip_ (da_cons
    (de_call0 d_law_part_names (hr.mono (by decide))) (da_cons (de_var) da_nil))) (dg_tup rfl (dgs_cons (dg_name S.nd) (dgs_cons (dg_name S.nd) dgs_nil))) (dss_one (ds_if
    (dt_not (dt_val (de_call d_law_good_part (L2N.takes_of rfl rfl rfl rfl) (hr.mono (by decide)) (da_cons (de_ix ok_ix ix_seq (de_var) (de_int) (fun _ _ => rfl)) (da_cons
    (de_var) (da_cons (de_var) (da_cons (de_var) da_nil))))))) (dss_one (ds_ret (de_bl))) dss_nil)))))) (dss_one (ds_ret (de_bl))))))
theorem Sc_law_kinds : FnScope N_law_kinds ["vat"] (defScope (top 25)) := ⟨rfl, rfl, rfl, by decide +kernel, rfl, by decide +kernel, by decide +kernel⟩
theorem W_law_kinds (g : Gs Z aPL aKW) (d_law_some : Df P w base Z 2 "_law_some" 2 F_law_some) {f : Addr} (cdv : Value) (A : Around) (o : List Env) (s : Shared) (H : Hp) (E : XK) (hr : Room 2 (A.deeper (envOfC "_law_kinds" (defScope (top 25)) s.heap.objs.size f cdv))) :
    PSs (CxD P w base Z N_law_kinds "_law_kinds" (defScope (top 25)) f cdv A o s H E) (defBody (top 25)) (upS Z (WD E) t_law_kinds) := by
  have S := Sc_law_kinds
  exact (dss_one (ds_ret (de_callR d_law_some (L2N.takes_of rfl rfl rfl rfl) (hr.mono (by decide)) (da_cons (de_ofN (de_lstN (da_cons (de_tup (da_cons (de_int) (da_cons (de_int)
    (da_cons (de_int) da_nil)))) (da_cons (de_tup (da_cons (de_int) (da_cons (de_int) (da_cons (de_int) da_nil)))) (da_cons (de_tup (da_cons (de_int) da_nil)) (da_cons
    (de_tup (da_cons (de_int) da_nil)) (da_cons (de_tup (da_cons (de_int) (da_cons (de_int) da_nil))) (da_cons (de_tup (da_cons (de_int) (da_cons (de_int) da_nil)))
    da_nil)))))))) da_nil))))
theorem Sc_law_house : FnScope N_law_house ["vat", "most"] (defScope (top 26)) := ⟨rfl, rfl, rfl, by decide +kernel, rfl, by decide +kernel, by decide +kernel⟩
theorem W_law_house (g : Gs Z aPL aKW) (d_law_under : Df P w base Z 1 "_law_under" 2 F_law_under) (d_law_kinds : Df P w base Z 3 "_law_kinds" 1 F_law_kinds) {f : Addr} (cdv : Value) (A : Around) (o : List Env) (s : Shared) (H : Hp) (E : XK) (hr : Room 3 (A.deeper (envOfC "_law_house" (defScope (top 26)) s.heap.objs.size f cdv))) :
    PSs (CxD P w base Z N_law_house "_law_house" (defScope (top 26)) f cdv A o s H E) (defBody (top 26)) (upS Z (WD E) t_law_house) := by
  have S := Sc_law_house
  exact (dss_cons (ds_par rfl S.nd (da_cons (de_op ok_add or_addAll (de_int) (de_callR d_law_under (L2N.takes_of rfl rfl rfl rfl) (hr.mono (by decide)) (da_cons (de_var) da_nil)))
    (da_cons (de_tup da_nil) da_nil))) (dss_cons (ds_for (passes_of rfl) rfl (di_range1 g.range_ (da_cons (de_op ok_add or_addAll (de_int) (de_callR d_law_under
    (L2N.takes_of rfl rfl rfl rfl) (hr.mono (by decide)) (da_cons (de_int) da_nil))) da_nil)) (dg_name S.nd) (dss_cons (ds_set S.nd (de_ifE ((dw_and (dt_cmp ok_gt op_gt
    (de_var) (de_int) (nomark _)) (dw_and1 (dt_cmp ok_eq (op_eqD (hu64 hr)) (de_callR d_law_under (L2N.takes_of rfl rfl rfl rfl) (hr.mono (by decide)) (da_cons (de_int)
    da_nil)) (de_int) (nomark _)))).pt) (de_callR d_law_under (L2N.takes_of rfl rfl rfl rfl) (hr.mono (by decide)) (da_cons (de_var) da_nil)) (de_non))) (dss_cons (ds_set
    S.nd (de_tup (da_cons (de_callR d_law_under (L2N.takes_of rfl rfl rfl rfl) (hr.mono (by decide)) (da_cons (de_int) da_nil)) (da_cons (de_callR d_law_under
    (L2N.takes_of rfl rfl rfl rfl) (hr.mono (by decide)) (da_cons (de_var) da_nil)) (da_cons (de_callR d_law_under (L2N.takes_of rfl rfl rfl rfl) (hr.mono (by decide))
    (da_cons (de_op ok_add or_addAll (de_var) (de_int)) da_nil)) (da_cons (de_var) da_nil)))))) (dss_one (ds_set S.nd (de_op ok_add or_addAll (de_var) (de_tup (da_cons
    (de_op ok_add or_addAll (de_var) (de_tup (da_cons (de_callR d_law_kinds (L2N.takes_of rfl rfl rfl rfl) (hr.mono (by decide)) da_nil) (da_cons (de_cmp ok_eq (op_eqD
    (hu64 hr)) (de_callR d_law_under (L2N.takes_of rfl rfl rfl rfl) (hr.mono (by decide)) (da_cons (de_int) da_nil)) (de_int) (nomark _)) da_nil)))) da_nil))))))))
    (dss_one (ds_ret (de_tup (da_cons (de_var) (da_cons (de_var) da_nil)))))))
theorem Sc_law_odd : FnScope N_law_odd ["vat", "depth"] (defScope (top 27)) := ⟨rfl, rfl, rfl, by decide +kernel, rfl, by decide +kernel, by decide +kernel⟩
theorem W_law_odd (g : Gs Z aPL aKW) {n : Nat} {F_law_odd : FS} (d_law_under : Df P w base Z 1 "_law_under" 2 F_law_under) (d_law_some : Df P w base Z 2 "_law_some" 2 F_law_some) (d_law_odd : Df P w base Z (n + 2) "_law_odd" 2 F_law_odd) {f : Addr} (cdv : Value) (A : Around) (o : List Env) (s : Shared) (H : Hp) (E : XK) (hr : Room (n + 2) (A.deeper (envOfC "_law_odd" (defScope (top 27)) s.heap.objs.size f cdv))) :
    PSs (CxD P w base Z N_law_odd "_law_odd" (defScope (top 27)) f cdv A o s H E) (defBody (top 27)) (upS Z (WD E) (t_law_odd F_law_odd)) := by
  have S := Sc_law_odd
  exact (dss_cons (ds_set S.nd (de_ofN (de_lstN (da_cons (de_non) (da_cons (de_bl) (da_cons (de_bl) (da_cons (de_int) (da_cons (de_int) (da_cons (de_int) (da_cons (de_int)
    (da_cons (de_neg (de_int)) (da_cons (de_op ok_pow op_pow (de_int) (de_int)) (da_cons (de_str) (da_cons (de_str) (da_cons (de_str) (da_cons (de_tup da_nil) (da_cons
    (de_ofN (de_lstN da_nil)) (da_cons (de_tup (da_cons (de_int) da_nil)) (da_cons (de_tup (da_cons (de_int) (da_cons (de_int) da_nil))) (da_cons (de_tup (da_cons (de_int)
    (da_cons (de_int) (da_cons (de_int) da_nil)))) da_nil)))))))))))))))))))) (dss_cons (ds_set S.nd (de_op ok_add or_addAll (de_var) (de_ofN (de_lstN (da_cons (de_tup
    (da_cons (de_str) (da_cons (de_int) da_nil))) (da_cons (de_tup (da_cons (de_str) (da_cons (de_int) (da_cons (de_int) da_nil)))) (da_cons (de_tup (da_cons (de_int)
    (da_cons (de_tup da_nil) da_nil))) (da_cons (de_tup (da_cons (de_int) (da_cons (de_tup (da_cons (de_tup (da_cons (de_int) (da_cons (de_int) (da_cons (de_int) (da_cons
    (de_non) (da_cons (de_tup (da_cons (de_int) da_nil)) (da_cons (de_bl) da_nil))))))) da_nil)) da_nil))) da_nil)))))))) (dss_cons (ds_if ((dw_or (dt_cmp ok_eq (op_eqD
    (hu64 hr)) (de_var) (de_int) (nomark _)) (dw_or1 (dt_cmp ok_lt op_lt (de_callR d_law_under (L2N.takes_of rfl rfl rfl rfl) (hr.mono (by omega)) (da_cons (de_int)
    da_nil)) (de_int) (nomark _)))).pt) (dss_one (ds_ret (de_callR d_law_some (L2N.takes_of rfl rfl rfl rfl) (hr.mono (by omega)) (da_cons (de_var) da_nil)))) dss_nil)
    (dss_cons (ds_setLc (own := [("part", 4)]) rfl S.nd (blkOk_by (N := N_law_odd) (sc := defScope (top 27)) (by decide +kernel)) (di_range1 g.range_ (da_cons (de_callR
    d_law_under (L2N.takes_of rfl rfl rfl rfl) (hr.mono (by omega)) (da_cons (de_int) da_nil)) da_nil)) (fun _ _ _ _ _ => (dg_name S.nd)) (fun _ _ _ _ _ => dts_nil) (fun _
    _ _ _ _ => (de_callR d_law_odd takes0X (hr.mono (by omega)) (da_cons (de_op ok_sub op_sub (de_var) (de_int)) da_nil))) (sw_true rfl rfl rfl (by decide +kernel)))
    (dss_one (ds_ret (de_ifE (dt_cmp ok_eq (op_eqD (hu64 hr)) (de_callR d_law_under (L2N.takes_of rfl rfl rfl rfl) (hr.mono (by omega)) (da_cons (de_int) da_nil)) (de_int)
    (nomark _)) (de_var) (de_callTy cb_tuple call_tuple_of g.tuple_ boot_tuple (da_cons (de_var) da_nil)))))))))
theorem Sc_law_lines : FnScope N_law_lines ["house"] (defScope (top 28)) := ⟨rfl, rfl, rfl, by decide +kernel, rfl, by decide +kernel, by decide +kernel⟩
theorem W_law_lines (g : Gs Z aPL aKW) {f : Addr} (cdv : Value) (A : Around) (o : List Env) (s : Shared) (H : Hp) (E : XK) (hr : Room 0 (A.deeper (envOfC "_law_lines" (defScope (top 28)) s.heap.objs.size f cdv))) :
    PSs (CxD P w base Z N_law_lines "_law_lines" (defScope (top 28)) f cdv A o s H E) (defBody (top 28)) (upS Z (WD E) t_law_lines) := by
  have S := Sc_law_lines
  exact (dss_cons (ds_own S.nd (de_lstN (da_cons (de_op ok_add or_addAll (de_str) (de_callTy cb_strI call_str_int g.str_ boot_str (da_cons (de_ix ok_ix ix_seq (de_var) (de_int)
    (fun _ _ => rfl)) da_nil))) da_nil))) (dss_cons (ds_for (passes_of rfl) rfl (di_seq (de_ix ok_ix ix_seq (de_var) (de_int) (fun _ _ => rfl))) (dg_tup rfl (dgs_cons
    (dg_name S.nd) (dgs_cons (dg_name S.nd) (dgs_cons (dg_name S.nd) (dgs_cons (dg_name S.nd) (dgs_cons (dg_name S.nd) (dgs_cons (dg_name S.nd) dgs_nil))))))) (dss_cons
    (ds_set S.nd (de_op ok_add or_addAll (de_op ok_add or_addAll (de_op ok_add or_addAll (de_op ok_add or_addAll (de_op ok_add or_addAll (de_str) (de_callTy cb_strI
    call_str_int g.str_ boot_str (da_cons (de_var) da_nil))) (de_str)) (de_callTy cb_strI call_str_int g.str_ boot_str (da_cons (de_var) da_nil))) (de_str)) (de_callTy
    cb_strI call_str_int g.str_ boot_str (da_cons (de_var) da_nil)))) (dss_cons (ds_set S.nd (de_op ok_add or_addAll (de_op ok_add or_addAll (de_var) (de_ifE (dt_cmp
    ok_isN op_isN (de_var) (de_non) (nomark _)) (de_str) (de_op ok_add or_addAll (de_str) (de_callTy cb_strI call_str_int g.str_ boot_str (da_cons (de_var) da_nil)))))
    (de_str))) (dss_cons (ds_for (passes_of rfl) rfl (di_seq (de_var)) (dg_name S.nd) (dss_one (ds_set S.nd (de_op ok_add or_addAll (de_var) (de_callTy cb_strI
    call_str_int g.str_ boot_str (da_cons (de_var) da_nil)))))) (dss_one (ds_app (da_cons (de_op ok_add or_addAll (de_var) (de_ifE (dt_val (de_var)) (de_str) (de_str)))
    da_nil))))))) (dss_one (ds_ret (de_var)))))
theorem Sc_law_read_so : FnScope N_law_read_so ["value"] (defScope (top 29)) := ⟨rfl, rfl, rfl, by decide +kernel, rfl, by decide +kernel, by decide +kernel⟩
theorem W_law_read_so (g : Gs Z aPL aKW) (d_read_house : Df P w base Z 6 "read_house" 1 F_read_house) {f : Addr} (cdv : Value) (A : Around) (o : List Env) (s : Shared) (H : Hp) (E : XK) (hr : Room 6 (A.deeper (envOfC "_law_read_so" (defScope (top 29)) s.heap.objs.size f cdv))) :
    PSs (CxD P w base Z N_law_read_so "_law_read_so" (defScope (top 29)) f cdv A o s H E) (defBody (top 29)) (upS Z (WD E) t_law_read_so) := by
  have S := Sc_law_read_so
  exact (dss_one (ds_tryF g.InvalidText S.nd (L2N.takes_of rfl rfl rfl rfl) (fun _ _ _ tk _ => (dss_one (ds_ret (de_call d_read_house tk (hr.mono (by decide)) (da_cons (de_var)
    da_nil)))))))
theorem Sc_law_spoilt : FnScope N_law_spoilt ["vat", "text"] (defScope (top 30)) := ⟨rfl, rfl, rfl, by decide +kernel, rfl, by decide +kernel, by decide +kernel⟩
theorem W_law_spoilt (g : Gs Z aPL aKW) (d_law_under : Df P w base Z 1 "_law_under" 2 F_law_under) (d_law_some : Df P w base Z 2 "_law_some" 2 F_law_some) {f : Addr} (cdv : Value) (A : Around) (o : List Env) (s : Shared) (H : Hp) (E : XK) (hr : Room 2 (A.deeper (envOfC "_law_spoilt" (defScope (top 30)) s.heap.objs.size f cdv))) :
    PSs (CxD P w base Z N_law_spoilt "_law_spoilt" (defScope (top 30)) f cdv A o s H E) (defBody (top 30)) (upS Z (WD E) t_law_spoilt) := by
  have S := Sc_law_spoilt
  exact (dss_cons (ds_par rfl S.nd (da_cons (de_callR d_law_under (L2N.takes_of rfl rfl rfl rfl) (hr.mono (by decide)) (da_cons (de_op ok_add or_addAll (de_callB cb_len call_len
    g.len_ boot_len (da_cons (de_var) da_nil)) (de_int)) da_nil)) (da_cons (de_callR d_law_under (L2N.takes_of rfl rfl rfl rfl) (hr.mono (by decide)) (da_cons (de_int)
    da_nil)) da_nil))) (dss_cons (ds_if (dt_cmp ok_lt op_lt (de_var) (de_int) (nomark _)) (dss_cons (ds_set S.nd (de_ofN (de_lstN (da_cons (de_str) (da_cons (de_str)
    (da_cons (de_str) (da_cons (de_str) (da_cons (de_str) (da_cons (de_str) (da_cons (de_str) (da_cons (de_str) (da_cons (de_str) (da_cons (de_str) (da_cons (de_str)
    (da_cons (de_str) da_nil))))))))))))))) (dss_one (ds_ret (de_op ok_add or_addAll (de_op ok_add or_addAll (de_sliceS (de_var) do_none (do_some (de_var))) (de_callR
    d_law_some (L2N.takes_of rfl rfl rfl rfl) (hr.mono (by decide)) (da_cons (de_var) da_nil))) (de_sliceS (de_var) (do_some (de_op ok_add or_addAll (de_var) (de_var)))
    do_none))))) dss_nil) (dss_cons (ds_set S.nd (de_ofN (de_split (de_var) (de_str)))) (dss_cons (ds_set S.nd (de_callR d_law_under (L2N.takes_of rfl rfl rfl rfl)
    (hr.mono (by decide)) (da_cons (de_callB cb_len call_len g.len_ boot_len (da_cons (de_var) da_nil)) da_nil))) (dss_cons (ds_if (dt_cmp ok_eq (op_eqD (hu64 hr))
    (de_var) (de_int) (nomark _)) (dss_one (ds_ret (de_join (de_str) (de_op ok_add or_addAll (de_slice (de_var) do_none (do_some (de_var))) (de_slice (de_var) (do_some
    (de_op ok_add or_addAll (de_var) (de_int))) do_none))))) dss_nil) (dss_cons (ds_if (dt_cmp ok_eq (op_eqD (hu64 hr)) (de_var) (de_int) (nomark _)) (dss_one (ds_ret
    (de_join (de_str) (de_op ok_add or_addAll (de_slice (de_var) do_none (do_some (de_op ok_add or_addAll (de_var) (de_int)))) (de_slice (de_var) (do_some (de_var))
    do_none))))) dss_nil) (dss_cons (ds_if (dt_cmp ok_eq (op_eqD (hu64 hr)) (de_var) (de_int) (nomark _)) (dss_one (ds_ret (de_join (de_str) (de_op ok_add or_addAll
    (de_slice (de_var) (do_some (de_var)) do_none) (de_slice (de_var) do_none (do_some (de_var))))))) dss_nil) (dss_cons (ds_set S.nd (de_ofN (de_lstN (da_cons (de_str)
    (da_cons (de_str) (da_cons (de_str) (da_cons (de_str) (da_cons (de_str) (da_cons (de_str) da_nil))))))))) (dss_one (ds_ret (de_join (de_str) (de_op ok_add or_addAll
    (de_op ok_add or_addAll (de_slice (de_var) do_none (do_some (de_var))) (de_ofN (de_lstN (da_cons (de_callR d_law_some (L2N.takes_of rfl rfl rfl rfl) (hr.mono (by
    decide)) (da_cons (de_var) da_nil)) da_nil)))) (de_slice (de_var) (do_some (de_op ok_add or_addAll (de_var) (de_int))) do_none)))))))))))))
theorem Sc_law_number : FnScope N_law_number ["word"] (defScope (top 31)) := ⟨rfl, rfl, rfl, by decide +kernel, rfl, by decide +kernel, by decide +kernel⟩
theorem W_law_number (g : Gs Z aPL aKW) {f : Addr} (cdv : Value) (A : Around) (o : List Env) (s : Shared) (H : Hp) (E : XK) (hr : Room 0 (A.deeper (envOfC "_law_number" (defScope (top 31)) s.heap.objs.size f cdv))) :
    PSs (CxD P w base Z N_law_number "_law_number" (defScope (top 31)) f cdv A o s H E) (defBody (top 31)) (upS Z (WD E) t_law_number) := by
  have S := Sc_law_number
  exact (dss_cons (ds_if ((dw_or (dt_cmp ok_eq (op_eqD (hu64 hr)) (de_var) (de_str) (nomark _)) (dw_or1 (dt_cmp ok_ne (op_neD (hu64 hr)) (de_ofN (de_lcN (own := [("sign", 1)]) rfl
    S.nd (blkOk_by (N := N_law_number) (sc := defScope (top 31)) (by decide +kernel)) (di_str (de_var)) (fun _ _ _ _ _ => (dg_name S.nd)) (fun _ _ _ _ _ => (dts_one
    (dt_cmp ok_notIn or_notIn (de_var) (de_str) (by with_unfolding_all rfl)))) (fun _ _ _ _ _ => (de_var)))) (de_ofN (de_lstN da_nil)) (nomark _)))).pt) (dss_one (ds_ret
    (de_non))) dss_nil) (dss_cons (ds_if ((dw_and (dt_cmp ok_ne (op_neD (hu64 hr)) (de_var) (de_str) (nomark _)) (dw_and1 (dt_cmp ok_eq (op_eqD (hu64 hr)) (de_ix ok_ix
    ix_seq (de_var) (de_int) (fun _ _ => rfl)) (de_str) (nomark _)))).pt) (dss_one (ds_ret (de_non))) dss_nil) (dss_one (ds_ret (de_ifE ((dw_and (dt_cmp ok_lt op_lt
    (de_callB cb_len call_len g.len_ boot_len (da_cons (de_var) da_nil)) (de_int) (nomark _)) (dw_and1 (dt_cmp ok_le op_le (de_callTy cb_intT cr_intT g.int_ boot_int
    (da_cons (de_var) da_nil)) (de_op ok_pow op_pow (de_int) (de_int)) (nomark _)))).pt) (de_callTy cb_intT cr_intT g.int_ boot_int (da_cons (de_var) da_nil))
    (de_non))))))
theorem Sc_law_line_of : FnScope N_law_line_of ["line"] (defScope (top 32)) := ⟨rfl, rfl, rfl, by decide +kernel, rfl, by decide +kernel, by decide +kernel⟩
theorem W_law_line_of (g : Gs Z aPL aKW) (d_law_number : Df P w base Z 1 "_law_number" 1 F_law_number) {f : Addr} (cdv : Value) (A : Around) (o : List Env) (s : Shared) (H : Hp) (E : XK) (hr : Room 1 (A.deeper (envOfC "_law_line_of" (defScope (top 32)) s.heap.objs.size f cdv))) :
    PSs (CxD P w base Z N_law_line_of "_law_line_of" (defScope (top 32)) f cdv A o s H E) (defBody (top 32)) (upS Z (WD E) t_law_line_of) := by
  have S := Sc_law_line_of
  exact (dss_cons (ds_set S.nd (de_ofN (de_split (de_var) (de_str)))) (dss_cons (ds_if ((dw_and (dt_cmp ok_eq (op_eqD (hu64 hr)) (de_callB cb_len call_len g.len_ boot_len (da_cons
    (de_var) da_nil)) (de_int) (nomark _)) (dw_and1 (dt_cmp ok_eq (op_eqD (hu64 hr)) (de_ix ok_ix ix_seq (de_var) (de_int) (fun _ _ => rfl)) (de_str) (nomark _)))).pt)
    (dss_cons (ds_set S.nd (de_call d_law_number (L2N.takes_of rfl rfl rfl rfl) (hr.mono (by decide)) (da_cons (de_ix ok_ix ix_seq (de_var) (de_int) (fun _ _ => rfl))
    da_nil))) (dss_one (ds_ret (de_ifE (dt_cmp ok_ne (op_neD (hu64 hr)) (de_var) (de_int) (nomark _)) (de_var) (de_non))))) dss_nil) (dss_cons (ds_if ((dw_or (dt_cmp ok_ne
    (op_neD (hu64 hr)) (de_callB cb_len call_len g.len_ boot_len (da_cons (de_var) da_nil)) (de_int) (nomark _)) (dw_or (dt_cmp ok_ne (op_neD (hu64 hr)) (de_ix ok_ix
    ix_seq (de_var) (de_int) (fun _ _ => rfl)) (de_str) (nomark _)) (dw_or1 (dt_cmp ok_notIn or_notIn (de_ix ok_ix ix_seq (de_var) (de_int) (fun _ _ => rfl)) (de_ofN
    (de_lstN (da_cons (de_str) (da_cons (de_str) (da_cons (de_str) da_nil))))) (by with_unfolding_all rfl))))).pt) (dss_one (ds_ret (de_non))) dss_nil) (dss_cons (ds_if
    ((dw_or (dt_cmp ok_notIn or_notIn (de_ix ok_ix ix_seq (de_var) (de_int) (fun _ _ => rfl)) (de_ofN (de_lstN (da_cons (de_str) (da_cons (de_str) (da_cons (de_str)
    (da_cons (de_str) (da_cons (de_str) (da_cons (de_str) (da_cons (de_str) da_nil))))))))) (by with_unfolding_all rfl)) (dw_or1 (dt_cmp ok_notIn or_notIn (de_ix ok_ix
    ix_seq (de_var) (de_int) (fun _ _ => rfl)) (de_ofN (de_lstN (da_cons (de_str) (da_cons (de_str) da_nil)))) (by with_unfolding_all rfl)))).pt) (dss_one (ds_ret
    (de_non))) dss_nil) (dss_cons (ds_setLc (own := [("word", 6)]) rfl S.nd (blkOk_by (N := N_law_line_of) (sc := defScope (top 32)) (by decide +kernel)) (di_seq (de_slice
    (de_var) (do_some (de_int)) (do_some (de_int)))) (fun _ _ _ _ _ => (dg_name S.nd)) (fun _ _ _ _ _ => dts_nil) (fun _ _ _ _ _ => (de_call d_law_number takes0X (hr.mono
    (by decide)) (da_cons (de_var) da_nil))) (sw_true rfl rfl rfl (by decide +kernel))) (dss_cons (ds_if ((dw_or (dt_cmp ok_in or_in (de_non) (de_var) (by
    with_unfolding_all rfl)) (dw_or (dt_cmp ok_gt op_gt (de_ix ok_ix ix_seq (de_var) (de_int) (fun _ _ => rfl)) (de_int) (nomark _)) (dw_or1 (dt_cmp ok_eq (op_eqD (hu64
    hr)) (de_ix ok_ix ix_seq (de_var) (de_int) (fun _ _ => rfl)) (de_op ok_pow op_pow (de_int) (de_int)) (nomark _))))).pt) (dss_one (ds_ret (de_non))) dss_nil) (dss_cons
    (ds_set S.nd (de_ifE (dt_cmp ok_eq (op_eqD (hu64 hr)) (de_ix ok_ix ix_seq (de_var) (de_int) (fun _ _ => rfl)) (de_str) (nomark _)) (de_non) (de_callTy cb_intT cr_intT
    g.int_ boot_int (da_cons (de_ix ok_ix ix_seq (de_var) (de_int) (fun _ _ => rfl)) da_nil)))) (dss_cons (ds_set S.nd (de_callTy cb_tuple call_tuple_of g.tuple_
    boot_tuple (da_cons (de_ofN (de_lcN (own := [("sign", 7)]) rfl S.nd (blkOk_by (N := N_law_line_of) (sc := defScope (top 32)) (by decide +kernel)) (di_str (de_ix ok_ix
    ix_seq (de_var) (de_int) (fun _ _ => rfl))) (fun _ _ _ _ _ => (dg_name S.nd)) (fun _ _ _ _ _ => dts_nil) (fun _ _ _ _ _ => (de_callTy cb_intT cr_intT g.int_ boot_int
    (da_cons (de_var) da_nil))))) da_nil))) (dss_one (ds_ret (de_tup (da_cons (de_ix ok_ix ix_seq (de_var) (de_int) (fun _ _ => rfl)) (da_cons (de_ix ok_ix ix_seq (de_var)
    (de_int) (fun _ _ => rfl)) (da_cons (de_ix ok_ix ix_seq (de_var) (de_int) (fun _ _ => rfl)) (da_cons (de_var) (da_cons (de_var) (da_cons (de_cmp ok_eq (op_eqD (hu64
    hr)) (de_ix ok_ix ix_seq (de_var) (de_int) (fun _ _ => rfl)) (de_str) (nomark _)) da_nil)))))))))))))))))
theorem Sc_law_due : FnScope N_law_due ["value"] (defScope (top 33)) := ⟨rfl, rfl, rfl, by decide +kernel, rfl, by decide +kernel, by decide +kernel⟩
theorem W_law_due (g : Gs Z aPL aKW) (d_law_line_of : Df P w base Z 2 "_law_line_of" 1 F_law_line_of) (d_law_is_house : Df P w base Z 4 "_law_is_house" 1 F_law_is_house) {f : Addr} (cdv : Value) (A : Around) (o : List Env) (s : Shared) (H : Hp) (E : XK) (hr : Room 4 (A.deeper (envOfC "_law_due" (defScope (top 33)) s.heap.objs.size f cdv))) :
    PSs (CxD P w base Z N_law_due "_law_due" (defScope (top 33)) f cdv A o s H E) (defBody (top 33)) (upS Z (WD E) t_law_due) := by
  have S := Sc_law_due
  exact (dss_cons (ds_if (dt_not (dt_val (de_callB cb_isi call_isi g.isinstance_ boot_isinstance (da_cons (de_var) (da_cons (de_tyN g.str_ boot_str) da_nil))))) (dss_one (ds_ret
    (de_int))) dss_nil) (dss_cons (ds_setLc (own := [("line", 3)]) rfl S.nd (blkOk_by (N := N_law_due) (sc := defScope (top 33)) (by decide +kernel)) (di_seq (de_ofN
    (de_split (de_var) (de_str)))) (fun _ _ _ _ _ => (dg_name S.nd)) (fun _ _ _ _ _ => dts_nil) (fun _ _ _ _ _ => (de_call d_law_line_of takes0X (hr.mono (by decide))
    (da_cons (de_var) da_nil))) (sw_true rfl rfl rfl (by decide +kernel))) (dss_cons (ds_if (dt_cmp ok_inL (op_inD (hu65 hr)) (de_non) (de_var) (by with_unfolding_all
    rfl)) (dss_one (ds_ret (de_op ok_add or_addAll (de_ixD (hu65 hr) (de_var) (da_cons (de_non) da_nil)) (de_int)))) dss_nil) (dss_cons (ds_set S.nd (de_tup (da_cons
    (de_ix ok_ix ix_seq (de_var) (de_int) (fun _ _ => rfl)) (da_cons (de_callTy cb_tuple call_tuple_of g.tuple_ boot_tuple (da_cons (de_slice (de_var) (do_some (de_int))
    do_none) da_nil)) da_nil)))) (dss_one (ds_ret (de_ifE (dt_val (de_call d_law_is_house (L2N.takes_of rfl rfl rfl rfl) (hr.mono (by decide)) (da_cons (de_var) da_nil)))
    (de_var) (de_op ok_add or_addAll (de_callB cb_len call_len g.len_ boot_len (da_cons (de_var) da_nil)) (de_int)))))))))
theorem Sc_law : FnScope N_law ["script"] (defScope (top 34)) := ⟨rfl, rfl, rfl, by decide +kernel, rfl, by decide +kernel, by decide +kernel⟩
theorem W_law (g : Gs Z aPL aKW) (d_law_vat : DfN P w base Z 1 "_law_vat" 2 F_law_vat) (d_law_lines : Df P w base Z 1 "_law_lines" 1 F_law_lines) (d_law_house : Df P w base Z 4 "_law_house" 2 F_law_house) (d_law_some : Df P w base Z 2 "_law_some" 2 F_law_some) (d_law_odd : Df P w base Z 5 "_law_odd" 2 F_law_odd) (d_law_read_so : Df P w base Z 7 "_law_read_so" 1 F_law_read_so) (d_law_due : Df P w base Z 5 "_law_due" 1 F_law_due) (d_law_spoilt : Df P w base Z 3 "_law_spoilt" 2 F_law_spoilt) {f : Addr} (cdv : Value) (A : Around) (o : List Env) (s : Shared) (H : Hp) (E : XK) (hr : Room 7 (A.deeper (envOfC "law" (defScope (top 34)) s.heap.objs.size f cdv))) :
    PSs (CxD P w base Z N_law "law" (defScope (top 34)) f cdv A o s H E) (defBody (top 34)) (upS Z (WD E) t_law) := by
  have S := Sc_law
  exact (dss_cons (ds_for (passes_of rfl) rfl (di_range1 g.range_ (da_cons (de_callB cb_max2 (call_max2 rfl) g.max_ boot_max (da_cons (de_int) (da_cons (de_callB cb_min2
    (call_min2 rfl) g.min_ boot_min (da_cons (de_int) (da_cons (de_callB cb_len call_len g.len_ boot_len (da_cons (de_var) da_nil)) da_nil))) da_nil))) da_nil)) (dg_name
    S.nd) (dss_cons (ds_own S.nd (de_callN d_law_vat (L2N.takes_of rfl rfl rfl rfl) (hr.mono (by decide)) (da_cons (de_var) (da_cons (de_var) da_nil)))) (dss_cons (ds_set
    S.nd (de_join (de_str) (de_call d_law_lines (L2N.takes_of rfl rfl rfl rfl) (hr.mono (by decide)) (da_cons (de_callR d_law_house (L2N.takes_of rfl rfl rfl rfl) (hr.mono
    (by decide)) (da_cons (de_callR d_law_some (L2N.takes_of rfl rfl rfl rfl) (hr.mono (by decide)) (da_cons (de_ofN (de_lstN (da_cons (de_int) (da_cons (de_int) (da_cons
    (de_op ok_pow op_pow (de_int) (de_int)) da_nil))))) da_nil)) da_nil)) da_nil)))) (dss_cons (ds_for (passes_of rfl) rfl (di_seq (de_ofN (de_lstN (da_cons (de_op ok_add
    or_addAll (de_var) (de_str)) (da_cons (de_op ok_add or_addAll (de_str) (de_var)) (da_cons (de_callR d_law_odd (L2N.takes_of rfl rfl rfl rfl) (hr.mono (by decide))
    (da_cons (de_int) da_nil)) (da_cons (de_ofN (de_lstN (da_cons (de_var) da_nil))) (da_cons (de_upper (de_var)) (da_cons (de_op ok_add or_addAll (de_var) (de_str))
    da_nil))))))))) (dg_name S.nd) (dss_one (ds_if (dt_cmp ok_ne (op_neD (hu64 hr)) (de_call d_law_read_so (L2N.takes_of rfl rfl rfl rfl) (hr.mono (by decide)) (da_cons
    (de_var) da_nil)) (de_call d_law_due (L2N.takes_of rfl rfl rfl rfl) (hr.mono (by decide)) (da_cons (de_var) da_nil)) (nomark _)) (dss_one (ds_ret (de_bl))) dss_nil)))
    (dss_one (ds_for (passes_of rfl) rfl (di_range1 g.range_ (da_cons (de_int) da_nil)) (dg_name S.nd) (dss_cons (ds_set S.nd (de_callR d_law_spoilt (L2N.takes_of rfl rfl
    rfl rfl) (hr.mono (by decide)) (da_cons (de_var) da_nil))) (dss_cons (ds_set S.nd (de_call d_law_read_so (L2N.takes_of rfl rfl rfl rfl) (hr.mono (by decide)) (da_cons
    (de_var) da_nil))) (dss_one (ds_if ((dw_or (dt_cmp ok_ne (op_neD (hu64 hr)) (de_var) (de_call d_law_due (L2N.takes_of rfl rfl rfl rfl) (hr.mono (by decide)) (da_cons
    (de_var) da_nil)) (nomark _)) (dw_or1 (dt_val (de_callB cb_isi call_isi g.isinstance_ boot_isinstance (da_cons (de_var) (da_cons (de_tyN g.bool_ boot_bool)
    da_nil)))))).pt) (dss_one (ds_ret (de_bl))) dss_nil)))))))))) (dss_cons (ds_set S.nd (de_str)) (dss_cons (ds_set S.nd (de_ofN (de_lstN (da_cons (de_tup (da_cons
    (de_str) (da_cons (de_int) da_nil))) (da_cons (de_tup (da_cons (de_non) (da_cons (de_int) da_nil))) (da_cons (de_tup (da_cons (de_str) (da_cons (de_int) da_nil)))
    (da_cons (de_tup (da_cons (de_str) (da_cons (de_int) da_nil))) (da_cons (de_tup (da_cons (de_op ok_add or_addAll (de_str) (de_op ok_repS op_repS (de_var) (de_int)))
    (da_cons (de_int) da_nil))) (da_cons (de_tup (da_cons (de_op ok_add or_addAll (de_str) (de_var)) (da_cons (de_int) da_nil))) (da_cons (de_tup (da_cons (de_sliceS
    (de_var) (do_some (de_int)) do_none) (da_cons (de_int) da_nil))) da_nil)))))))))) (dss_cons (ds_set S.nd (de_op ok_add or_addAll (de_var) (de_ofN (de_lstN (da_cons
    (de_tup (da_cons (de_str) (da_cons (de_int) da_nil))) (da_cons (de_tup (da_cons (de_str) (da_cons (de_int) da_nil))) (da_cons (de_tup (da_cons (de_str) (da_cons
    (de_int) da_nil))) da_nil))))))) (dss_cons (ds_set S.nd (de_op ok_add or_addAll (de_var) (de_ofN (de_lstN (da_cons (de_tup (da_cons (de_op ok_add or_addAll (de_op
    ok_add or_addAll (de_str) (de_var)) (de_str)) (da_cons (de_int) da_nil))) (da_cons (de_tup (da_cons (de_str) (da_cons (de_int) da_nil))) (da_cons (de_tup (da_cons
    (de_str) (da_cons (de_int) da_nil))) da_nil))))))) (dss_cons (ds_set S.nd (de_op ok_add or_addAll (de_var) (de_ofN (de_lstN (da_cons (de_tup (da_cons (de_str) (da_cons
    (de_int) da_nil))) (da_cons (de_tup (da_cons (de_str) (da_cons (de_int) da_nil))) (da_cons (de_tup (da_cons (de_op ok_add or_addAll (de_str) (de_op ok_repS op_repS
    (de_str) (de_int))) (da_cons (de_int) da_nil))) (da_cons (de_tup (da_cons (de_op ok_add or_addAll (de_op ok_add or_addAll (de_str) (de_var)) (de_str)) (da_cons
    (de_int) da_nil))) da_nil)))))))) (dss_one (ds_ret (de_cmp ok_eq (op_eqD (hu64 hr)) (de_ofN (de_lcN (own := [("row", 9)]) rfl S.nd (blkOk_by (N := N_law) (sc :=
    defScope (top 34)) (by decide +kernel)) (di_seq (de_var)) (fun _ _ _ _ _ => (dg_name S.nd)) (fun _ _ _ _ _ => (dts_one (dt_cmp ok_ne (op_neD (hu64 hr)) (de_call
    d_law_read_so takes0X (hr.mono (by decide)) (da_cons (de_ix ok_ix ix_seq (de_var) (de_int) (fun _ _ => rfl)) da_nil)) (de_ix ok_ix ix_seq (de_var) (de_int) (fun _ _ =>
    rfl)) (nomark _)))) (fun _ _ _ _ _ => (de_var)))) (de_ofN (de_lstN da_nil)) (nomark _))))))))))
end
end TS
set_option Elab.async false
set_option linter.all false
set_option maxRecDepth 100000
set_option maxHeartbeats 0
namespace TS
namespace Hd
open PySem PySem.Spec PyProof.Rows L2 TS
def d_is_whole : He.DefD := ⟨("is_whole", none), "is_whole", "is_whole", defArgs (top 5), defBody (top 5), defScope (top 5), [], []⟩
def d_is_rising : He.DefD := ⟨("is_rising", none), "is_rising", "is_rising", defArgs (top 6), defBody (top 6), defScope (top 6), [], []⟩
def d_is_part : He.DefD := ⟨("is_part", none), "is_part", "is_part", defArgs (top 7), defBody (top 7), defScope (top 7), [], []⟩
def d_is_way : He.DefD := ⟨("is_way", none), "is_way", "is_way", defArgs (top 8), defBody (top 8), defScope (top 8), [], []⟩
def d_has_house : He.DefD := ⟨("has_house", none), "has_house", "has_house", defArgs (top 9), defBody (top 9), defScope (top 9), [], []⟩
def d_number_of : He.DefD := ⟨("number_of", none), "number_of", "number_of", defArgs (top 12), defBody (top 12), defScope (top 12), [], []⟩
def d_size_of : He.DefD := ⟨("size_of", none), "size_of", "size_of", defArgs (top 13), defBody (top 13), defScope (top 13), [], []⟩
def d_way_of : He.DefD := ⟨("way_of", none), "way_of", "way_of", defArgs (top 14), defBody (top 14), defScope (top 14), [], []⟩
def d_read_house : He.DefD := ⟨("read_house", none), "read_house", "read_house", defArgs (top 15), defBody (top 15), defScope (top 15), [], []⟩
def d_law_vat : He.DefD := ⟨("_law_vat", none), "_law_vat", "_law_vat", defArgs (top 17), defBody (top 17), defScope (top 17), [], []⟩
def d_law_under : He.DefD := ⟨("_law_under", none), "_law_under", "_law_under", defArgs (top 18), defBody (top 18), defScope (top 18), [], []⟩
def d_law_some : He.DefD := ⟨("_law_some", none), "_law_some", "_law_some", defArgs (top 19), defBody (top 19), defScope (top 19), [], []⟩
def d_law_is_whole : He.DefD := ⟨("_law_is_whole", none), "_law_is_whole", "_law_is_whole", defArgs (top 20), defBody (top 20), defScope (top 20), [], []⟩
def d_law_kinds_good : He.DefD := ⟨("_law_kinds_good", none), "_law_kinds_good", "_law_kinds_good", defArgs (top 21), defBody (top 21), defScope (top 21), [], []⟩
def d_law_good_part : He.DefD := ⟨("_law_good_part", none), "_law_good_part", "_law_good_part", defArgs (top 22), defBody (top 22), defScope (top 22), [], []⟩
def d_law_part_names : He.DefD := ⟨("_law_part_names", none), "_law_part_names", "_law_part_names", defArgs (top 23), defBody (top 23), defScope (top 23), [], []⟩
def d_law_is_house : He.DefD := ⟨("_law_is_house", none), "_law_is_house", "_law_is_house", defArgs (top 24), defBody (top 24), defScope (top 24), [], []⟩
def d_law_kinds : He.DefD := ⟨("_law_kinds", none), "_law_kinds", "_law_kinds", defArgs (top 25), defBody (top 25), defScope (top 25), [], []⟩
def d_law_house : He.DefD := ⟨("_law_house", none), "_law_house", "_law_house", defArgs (top 26), defBody (top 26), defScope (top 26), [], []⟩
def d_law_odd : He.DefD := ⟨("_law_odd", none), "_law_odd", "_law_odd", defArgs (top 27), defBody (top 27), defScope (top 27), [], []⟩
def d_law_lines : He.DefD := ⟨("_law_lines", none), "_law_lines", "_law_lines", defArgs (top 28), defBody (top 28), defScope (top 28), [], []⟩
def d_law_read_so : He.DefD := ⟨("_law_read_so", none), "_law_read_so", "_law_read_so", defArgs (top 29), defBody (top 29), defScope (top 29), [], []⟩
def d_law_spoilt : He.DefD := ⟨("_law_spoilt", none), "_law_spoilt", "_law_spoilt", defArgs (top 30), defBody (top 30), defScope (top 30), [], []⟩
def d_law_number : He.DefD := ⟨("_law_number", none), "_law_number", "_law_number", defArgs (top 31), defBody (top 31), defScope (top 31), [], []⟩
def d_law_line_of : He.DefD := ⟨("_law_line_of", none), "_law_line_of", "_law_line_of", defArgs (top 32), defBody (top 32), defScope (top 32), [], []⟩
def d_law_due : He.DefD := ⟨("_law_due", none), "_law_due", "_law_due", defArgs (top 33), defBody (top 33), defScope (top 33), [], []⟩
def d_law : He.DefD := ⟨("law", none), "law", "law", defArgs (top 34), defBody (top 34), defScope (top 34), [], []⟩
def mTop (i j : Nat) : Stmt := match top i with
  | .ClassDef (body := b) .. => b.getD j (.Pass ⟨0, 0, 0, 0⟩)
  | _ => .Pass ⟨0, 0, 0, 0⟩
def d_InvalidText_init : He.DefD := ⟨("InvalidText", some "__init__"), "__init__", "InvalidText.__init__", defArgs (mTop 2 0), defBody (mTop 2 0), defScope (mTop 2 0), [], []⟩
def fn : List He.DefD := [d_is_whole, d_is_rising, d_is_part, d_is_way, d_has_house, d_number_of, d_size_of, d_way_of, d_read_house, d_law_vat, d_law_under, d_law_some, d_law_is_whole, d_law_kinds_good, d_law_good_part, d_law_part_names, d_law_is_house, d_law_kinds, d_law_house, d_law_odd, d_law_lines, d_law_read_so, d_law_spoilt, d_law_number, d_law_line_of, d_law_due, d_law, d_InvalidText_init]
def fa : List He.Fa := [.glo "is_whole", .glo "is_rising", .glo "is_part", .glo "is_way", .glo "has_house", .glo "number_of", .glo "size_of", .glo "way_of", .glo "read_house", .glo "_law_vat", .glo "_law_under", .glo "_law_some", .glo "_law_is_whole", .glo "_law_kinds_good", .glo "_law_good_part", .glo "_law_part_names", .glo "_law_is_house", .glo "_law_kinds", .glo "_law_house", .glo "_law_odd", .glo "_law_lines", .glo "_law_read_so", .glo "_law_spoilt", .glo "_law_number", .glo "_law_line_of", .glo "_law_due", .glo "law", .glo "ShareError", .glo "InvalidText", .free "ValueError", .free "abs", .free "bool", .free "enumerate", .free "int", .free "isinstance", .free "len", .free "list", .free "max", .free "min", .free "range", .free "set", .free "sorted", .free "str", .free "tuple", .free "zip", .exc "ShareError", .glo "KIND_WORDS", .int "MOST_SIZE" (10 ^ 30)]
def tf : List He.Defn := []
def ex (K : PySem.W.Frag) : Bool := tupS K "KIND_WORDS" ["0", "1", "2", "01", "02", "12", "012"] && excPB K "InvalidText" "line"
def names0 : List Str := ["ShareError", "InvalidText", "MOST_SIZE", "KIND_WORDS", "is_whole", "is_rising", "is_part", "is_way", "has_house", "number_of", "size_of", "way_of", "read_house", "_law_vat", "_law_under", "_law_some", "_law_is_whole", "_law_kinds_good", "_law_good_part", "_law_part_names"]
def names1 : List Str := ["_law_is_house", "_law_kinds", "_law_house", "_law_odd", "_law_lines", "_law_read_so", "_law_spoilt", "_law_number", "_law_line_of", "_law_due"]
def names : List Str := names0 ++ names1
abbrev R : PySem.W.OpenRow := PySem.W.OpenLaw.row PySem.Challenge.rw_turnedshares_k12_texts_spoilt
abbrev hk : PySem.W.Hook := hookC 5 fa fn ex
def ob (s : PySem.W.SharedT) : He.AlX := obsC 5 fa fn ex (HandSHeadRun.getT s)
theorem ob_eq (s : PySem.W.SharedT) : ob s = hk.obs s.abs := obsC_eq (HandSHeadRun.getT_eq s)
theorem run (w : World) : HandSHeadRun.RunEq R (PySem.W.view R.prog [34]) hk ob 9000 names w := by
  intro os
  kernel_rfl
end Hd
end TS
set_option Elab.async false
set_option linter.all false
set_option maxRecDepth 100000
set_option maxHeartbeats 0
namespace TS
open PySem PySem.Spec PyProof.Rows L2 LamX
theorem facts {w : World} {K : PySem.W.Frag} {h : Heap} {mg : Str → Option Value} {fa' : Addr} (X : K.In h) (G : h.Ns mainGlobals mg) (hfa : mg "law" = some (.ref fa')) (c : He.SaysX Hd.fa Hd.fn [] Hd.tf Hd.ex w h K) :
    LamX.LawAtS PySem.Challenge.rw_turnedshares_k12_texts_spoilt w K (L2N.CX (PySem.Challenge.rw_turnedshares_k12_texts_spoilt).prog w) 8 63 "script" mg fa' h := by
  have hx : (tupS K "KIND_WORDS" ["0", "1", "2", "01", "02", "12", "012"] && excPB K "InvalidText" "line") = true := c.more
  obtain ⟨hx, hp_InvalidText⟩ := He.ba hx
  have ht0 := hx
  obtain ⟨fd_InvalidText_init, FD_InvalidText_init⟩ := c.t.d.def_ 27 (d := Hd.d_InvalidText_init) rfl
  obtain ⟨fd_is_whole, FD_is_whole⟩ := c.t.d.def_ 0 (d := Hd.d_is_whole) rfl
  obtain ⟨fd_is_rising, FD_is_rising⟩ := c.t.d.def_ 1 (d := Hd.d_is_rising) rfl
  obtain ⟨fd_is_part, FD_is_part⟩ := c.t.d.def_ 2 (d := Hd.d_is_part) rfl
  obtain ⟨fd_is_way, FD_is_way⟩ := c.t.d.def_ 3 (d := Hd.d_is_way) rfl
  obtain ⟨fd_has_house, FD_has_house⟩ := c.t.d.def_ 4 (d := Hd.d_has_house) rfl
  obtain ⟨fd_number_of, FD_number_of⟩ := c.t.d.def_ 5 (d := Hd.d_number_of) rfl
  obtain ⟨fd_size_of, FD_size_of⟩ := c.t.d.def_ 6 (d := Hd.d_size_of) rfl
  obtain ⟨fd_way_of, FD_way_of⟩ := c.t.d.def_ 7 (d := Hd.d_way_of) rfl
  obtain ⟨fd_read_house, FD_read_house⟩ := c.t.d.def_ 8 (d := Hd.d_read_house) rfl
  obtain ⟨fd_law_vat, FD_law_vat⟩ := c.t.d.def_ 9 (d := Hd.d_law_vat) rfl
  obtain ⟨fd_law_under, FD_law_under⟩ := c.t.d.def_ 10 (d := Hd.d_law_under) rfl
  obtain ⟨fd_law_some, FD_law_some⟩ := c.t.d.def_ 11 (d := Hd.d_law_some) rfl
  obtain ⟨fd_law_is_whole, FD_law_is_whole⟩ := c.t.d.def_ 12 (d := Hd.d_law_is_whole) rfl
  obtain ⟨fd_law_kinds_good, FD_law_kinds_good⟩ := c.t.d.def_ 13 (d := Hd.d_law_kinds_good) rfl
  obtain ⟨fd_law_good_part, FD_law_good_part⟩ := c.t.d.def_ 14 (d := Hd.d_law_good_part) rfl
  obtain ⟨fd_law_part_names, FD_law_part_names⟩ := c.t.d.def_ 15 (d := Hd.d_law_part_names) rfl
  obtain ⟨fd_law_is_house, FD_law_is_house⟩ := c.t.d.def_ 16 (d := Hd.d_law_is_house) rfl
  obtain ⟨fd_law_kinds, FD_law_kinds⟩ := c.t.d.def_ 17 (d := Hd.d_law_kinds) rfl
  obtain ⟨fd_law_house, FD_law_house⟩ := c.t.d.def_ 18 (d := Hd.d_law_house) rfl
  obtain ⟨fd_law_odd, FD_law_odd⟩ := c.t.d.def_ 19 (d := Hd.d_law_odd) rfl
  obtain ⟨fd_law_lines, FD_law_lines⟩ := c.t.d.def_ 20 (d := Hd.d_law_lines) rfl
  obtain ⟨fd_law_read_so, FD_law_read_so⟩ := c.t.d.def_ 21 (d := Hd.d_law_read_so) rfl
  obtain ⟨fd_law_spoilt, FD_law_spoilt⟩ := c.t.d.def_ 22 (d := Hd.d_law_spoilt) rfl
  obtain ⟨fd_law_number, FD_law_number⟩ := c.t.d.def_ 23 (d := Hd.d_law_number) rfl
  obtain ⟨fd_law_line_of, FD_law_line_of⟩ := c.t.d.def_ 24 (d := Hd.d_law_line_of) rfl
  obtain ⟨fd_law_due, FD_law_due⟩ := c.t.d.def_ 25 (d := Hd.d_law_due) rfl
  obtain ⟨fd_law, FD_law⟩ := c.t.d.def_ 26 (d := Hd.d_law) rfl
  have e := hfa.symm.trans (He.glo_ok X G (c.t.d.fact 26 (f := .glo "law") rfl))
  cases e
  have mt0 : mg "KIND_WORDS" = some (.ref (He.ga K "KIND_WORDS")) := He.glo_ok X G (c.t.d.fact 46 (f := .glo "KIND_WORDS") rfl)
  haveI : GoodJ ⟨K, mg, Tabs (tabT K Hd.tf)⟩ := goodJ_tabs
  have g : Gs ⟨K, mg, Tabs (tabT K Hd.tf)⟩ 0 (He.ga K "KIND_WORDS") := ⟨He.free_ok X G (c.t.d.fact 30 (f := .free "abs") rfl),
    He.free_ok X G (c.t.d.fact 31 (f := .free "bool") rfl),
    He.free_ok X G (c.t.d.fact 32 (f := .free "enumerate") rfl),
    He.free_ok X G (c.t.d.fact 33 (f := .free "int") rfl),
    He.free_ok X G (c.t.d.fact 34 (f := .free "isinstance") rfl),
    He.free_ok X G (c.t.d.fact 35 (f := .free "len") rfl),
    He.free_ok X G (c.t.d.fact 36 (f := .free "list") rfl),
    He.free_ok X G (c.t.d.fact 37 (f := .free "max") rfl),
    He.free_ok X G (c.t.d.fact 38 (f := .free "min") rfl),
    He.free_ok X G (c.t.d.fact 39 (f := .free "range") rfl),
    He.free_ok X G (c.t.d.fact 40 (f := .free "set") rfl),
    He.free_ok X G (c.t.d.fact 41 (f := .free "sorted") rfl),
    He.free_ok X G (c.t.d.fact 42 (f := .free "str") rfl),
    He.free_ok X G (c.t.d.fact 43 (f := .free "tuple") rfl),
    He.free_ok X G (c.t.d.fact 44 (f := .free "zip") rfl),
    He.int_ok X G (c.t.d.fact 47 (f := .int "MOST_SIZE" (10 ^ 30)) rfl),
    ⟨mt0, fun H => tupS_rp (Z := ⟨K, mg, Tabs (tabT K Hd.tf)⟩) (x := "KIND_WORDS") (ns := ["0", "1", "2", "01", "02", "12", "012"]) ht0 H⟩,
    ⟨mt0, tupObj_ok (He.ba ht0).1, fun H => tupS_sq (x := "KIND_WORDS") (ns := ["0", "1", "2", "01", "02", "12", "012"]) ht0 H⟩,
    excF_of (Z := ⟨K, mg, Tabs (tabT K Hd.tf)⟩) (He.glo_ok X G (c.t.d.fact 27 (f := .glo "ShareError") rfl)) (c.t.d.fact 45 (f := .exc "ShareError") rfl),
    excR_of (Z := ⟨K, mg, Tabs (tabT K Hd.tf)⟩) (He.glo_ok X G (c.t.d.fact 28 (f := .glo "InvalidText") rfl)) hp_InvalidText⟩
  refine ⟨fd_law, Hd.tf.map (He.cT K), upF ⟨K, mg, Tabs (tabT K Hd.tf)⟩ 1 F_law, fun p hp => ?_, fun p hp => ?_, fun p hp => ?_, ?_, ?_, ?_⟩
  · obtain ⟨q, hq, rfl⟩ := List.mem_map.mp hp
    exact c.empty q hq
  · obtain ⟨q, hq, rfl⟩ := List.mem_map.mp hp
    exact c.out q hq
  · obtain ⟨q, hq, rfl⟩ := List.mem_map.mp hp
    exact PySem.W.codeHd_of_K X (c.hd q hq)
  · have b := FunD.bindsA (ps := ["script"]) FD_law fun _ _ _ _ _ _ us hl => match us, hl with | [_], _ => rfl
    exact fun s u => b s [u] rfl
  · intro H a ns hl hbits hT hS
    exact law_start hl hT hS
  · intro base KB GB htab
    have x_InvalidText : ExcP (PySem.Challenge.rw_turnedshares_k12_texts_spoilt).prog w base ⟨K, mg, Tabs (tabT K Hd.tf)⟩ 1 "InvalidText" "line" := excP_of (N := []) (Z := ⟨K, mg, Tabs (tabT K Hd.tf)⟩) (He.glo_ok X G (c.t.d.fact 28 (f := .glo "InvalidText") rfl)) (excPB_ok hp_InvalidText).oex (excPB_ok hp_InvalidText).fld (excPB_ok hp_InvalidText).ini (excPB_ok hp_InvalidText).fn FD_InvalidText_init ⟨rfl, rfl, rfl, by decide +kernel, rfl, by decide +kernel, by decide +kernel⟩ (fun _ _ _ _ _ _ us hl => match us, hl with | [_, _], _ => rfl) (He.glo_ok X G (c.t.d.fact 27 (f := .glo "ShareError") rfl)) (excPB_ok hp_InvalidText).rd (excPB_ok hp_InvalidText).io (fun env => rfl) rfl rfl rfl (by decide) (by decide)
    have D_law_vat : DfN (PySem.Challenge.rw_turnedshares_k12_texts_spoilt).prog w base ⟨K, mg, Tabs (tabT K Hd.tf)⟩ 1 "_law_vat" 2 F_law_vat := DfN.of (Z := ⟨K, mg, Tabs (tabT K Hd.tf)⟩) (k := 0) FD_law_vat Sc_law_vat (He.glo_ok X G (c.t.d.fact 9 (f := .glo "_law_vat") rfl)) (fun _ _ _ _ _ _ us hl => match us, hl with | [_, _], _ => rfl) rfl (fun cdv A o s H E hr => W_law_vat g cdv A o s H E hr) B_law_vat
    have D_law_lines : Df (PySem.Challenge.rw_turnedshares_k12_texts_spoilt).prog w base ⟨K, mg, Tabs (tabT K Hd.tf)⟩ 1 "_law_lines" 1 F_law_lines := Df.of (Z := ⟨K, mg, Tabs (tabT K Hd.tf)⟩) (k := 0) FD_law_lines Sc_law_lines (He.glo_ok X G (c.t.d.fact 20 (f := .glo "_law_lines") rfl)) (fun _ _ _ _ _ _ us hl => match us, hl with | [_], _ => rfl) rfl (fun cdv A o s H E hr => W_law_lines g cdv A o s H E hr) B_law_lines
    have D_law_under : Df (PySem.Challenge.rw_turnedshares_k12_texts_spoilt).prog w base ⟨K, mg, Tabs (tabT K Hd.tf)⟩ 1 "_law_under" 2 F_law_under := Df.of (Z := ⟨K, mg, Tabs (tabT K Hd.tf)⟩) (k := 0) FD_law_under Sc_law_under (He.glo_ok X G (c.t.d.fact 10 (f := .glo "_law_under") rfl)) (fun _ _ _ _ _ _ us hl => match us, hl with | [_, _], _ => rfl) rfl (fun cdv A o s H E hr => W_law_under g cdv A o s H E hr) B_law_under
    have D_law_some : Df (PySem.Challenge.rw_turnedshares_k12_texts_spoilt).prog w base ⟨K, mg, Tabs (tabT K Hd.tf)⟩ 2 "_law_some" 2 F_law_some := Df.of (Z := ⟨K, mg, Tabs (tabT K Hd.tf)⟩) (k := 1) FD_law_some Sc_law_some (He.glo_ok X G (c.t.d.fact 11 (f := .glo "_law_some") rfl)) (fun _ _ _ _ _ _ us hl => match us, hl with | [_, _], _ => rfl) rfl (fun cdv A o s H E hr => W_law_some g D_law_under cdv A o s H E hr) B_law_some
    have D_law_kinds : Df (PySem.Challenge.rw_turnedshares_k12_texts_spoilt).prog w base ⟨K, mg, Tabs (tabT K Hd.tf)⟩ 3 "_law_kinds" 1 F_law_kinds := Df.of (Z := ⟨K, mg, Tabs (tabT K Hd.tf)⟩) (k := 2) FD_law_kinds Sc_law_kinds (He.glo_ok X G (c.t.d.fact 17 (f := .glo "_law_kinds") rfl)) (fun _ _ _ _ _ _ us hl => match us, hl with | [_], _ => rfl) rfl (fun cdv A o s H E hr => W_law_kinds g D_law_some cdv A o s H E hr) B_law_kinds
    have D_law_house : Df (PySem.Challenge.rw_turnedshares_k12_texts_spoilt).prog w base ⟨K, mg, Tabs (tabT K Hd.tf)⟩ 4 "_law_house" 2 F_law_house := Df.of (Z := ⟨K, mg, Tabs (tabT K Hd.tf)⟩) (k := 3) FD_law_house Sc_law_house (He.glo_ok X G (c.t.d.fact 18 (f := .glo "_law_house") rfl)) (fun _ _ _ _ _ _ us hl => match us, hl with | [_, _], _ => rfl) rfl (fun cdv A o s H E hr => W_law_house g D_law_under D_law_kinds cdv A o s H E hr) B_law_house
    have D_law_odd_b : Df (PySem.Challenge.rw_turnedshares_k12_texts_spoilt).prog w base ⟨K, mg, Tabs (tabT K Hd.tf)⟩ 2 "_law_odd" 2 (fun _ _ _ => False) := Df.bot (ps := ["vat", "depth"]) (He.glo_ok X G (c.t.d.fact 19 (f := .glo "_law_odd") rfl)) FD_law_odd.kp (FunD.bindsN FD_law_odd (fun _ _ _ _ _ _ us hl => match us, hl with | [_, _], _ => rfl))
    have D_law_odd_0 : Df (PySem.Challenge.rw_turnedshares_k12_texts_spoilt).prog w base ⟨K, mg, Tabs (tabT K Hd.tf)⟩ 3 "_law_odd" 2 (FB (S_law_odd 0)) := Df.of (Z := ⟨K, mg, Tabs (tabT K Hd.tf)⟩) (k := 2) FD_law_odd Sc_law_odd (He.glo_ok X G (c.t.d.fact 19 (f := .glo "_law_odd") rfl)) (fun _ _ _ _ _ _ us hl => match us, hl with | [_, _], _ => rfl) rfl (fun cdv A o s H E hr => W_law_odd (n := 0) g D_law_under D_law_some D_law_odd_b cdv A o s H E hr) (oddB (.inl rfl))
    have D_law_odd_1 : Df (PySem.Challenge.rw_turnedshares_k12_texts_spoilt).prog w base ⟨K, mg, Tabs (tabT K Hd.tf)⟩ 4 "_law_odd" 2 (FB (S_law_odd 1)) := Df.of (Z := ⟨K, mg, Tabs (tabT K Hd.tf)⟩) (k := 3) FD_law_odd Sc_law_odd (He.glo_ok X G (c.t.d.fact 19 (f := .glo "_law_odd") rfl)) (fun _ _ _ _ _ _ us hl => match us, hl with | [_, _], _ => rfl) rfl (fun cdv A o s H E hr => W_law_odd (n := 1) g D_law_under D_law_some D_law_odd_0 cdv A o s H E hr) (oddB (F := FB (S_law_odd 0)) (k := 1) (.inr ⟨by decide, rfl⟩))
    have D_law_odd : Df (PySem.Challenge.rw_turnedshares_k12_texts_spoilt).prog w base ⟨K, mg, Tabs (tabT K Hd.tf)⟩ 5 "_law_odd" 2 (FB (S_law_odd 2)) := Df.of (Z := ⟨K, mg, Tabs (tabT K Hd.tf)⟩) (k := 4) FD_law_odd Sc_law_odd (He.glo_ok X G (c.t.d.fact 19 (f := .glo "_law_odd") rfl)) (fun _ _ _ _ _ _ us hl => match us, hl with | [_, _], _ => rfl) rfl (fun cdv A o s H E hr => W_law_odd (n := 2) g D_law_under D_law_some D_law_odd_1 cdv A o s H E hr) (oddB (F := FB (S_law_odd 1)) (k := 2) (.inr ⟨by decide, rfl⟩))
    have D_number_of : Df (PySem.Challenge.rw_turnedshares_k12_texts_spoilt).prog w base ⟨K, mg, Tabs (tabT K Hd.tf)⟩ 1 "number_of" 2 F_number_of := Df.of (Z := ⟨K, mg, Tabs (tabT K Hd.tf)⟩) (k := 0) FD_number_of Sc_number_of (He.glo_ok X G (c.t.d.fact 5 (f := .glo "number_of") rfl)) (fun _ _ _ _ _ _ us hl => match us, hl with | [_, _], _ => rfl) rfl (fun cdv A o s H E hr => W_number_of g cdv A o s H E hr) B_number_of
    have D_size_of : Df (PySem.Challenge.rw_turnedshares_k12_texts_spoilt).prog w base ⟨K, mg, Tabs (tabT K Hd.tf)⟩ 2 "size_of" 1 F_size_of := Df.of (Z := ⟨K, mg, Tabs (tabT K Hd.tf)⟩) (k := 1) FD_size_of Sc_size_of (He.glo_ok X G (c.t.d.fact 6 (f := .glo "size_of") rfl)) (fun _ _ _ _ _ _ us hl => match us, hl with | [_], _ => rfl) rfl (fun cdv A o s H E hr => W_size_of g D_number_of cdv A o s H E hr) B_size_of
    have D_is_whole : Df (PySem.Challenge.rw_turnedshares_k12_texts_spoilt).prog w base ⟨K, mg, Tabs (tabT K Hd.tf)⟩ 1 "is_whole" 3 F_is_whole := Df.of (Z := ⟨K, mg, Tabs (tabT K Hd.tf)⟩) (k := 0) FD_is_whole Sc_is_whole (He.glo_ok X G (c.t.d.fact 0 (f := .glo "is_whole") rfl)) (fun _ _ _ _ _ _ us hl => match us, hl with | [_, _, _], _ => rfl) rfl (fun cdv A o s H E hr => W_is_whole g cdv A o s H E hr) B_is_whole
    have D_is_rising : Df (PySem.Challenge.rw_turnedshares_k12_texts_spoilt).prog w base ⟨K, mg, Tabs (tabT K Hd.tf)⟩ 2 "is_rising" 2 F_is_rising := Df.of (Z := ⟨K, mg, Tabs (tabT K Hd.tf)⟩) (k := 1) FD_is_rising Sc_is_rising (He.glo_ok X G (c.t.d.fact 1 (f := .glo "is_rising") rfl)) (fun _ _ _ _ _ _ us hl => match us, hl with | [_, _], _ => rfl) rfl (fun cdv A o s H E hr => W_is_rising g D_is_whole cdv A o s H E hr) B_is_rising
    have D_is_part : Df (PySem.Challenge.rw_turnedshares_k12_texts_spoilt).prog w base ⟨K, mg, Tabs (tabT K Hd.tf)⟩ 3 "is_part" 4 F_is_part := Df.of (Z := ⟨K, mg, Tabs (tabT K Hd.tf)⟩) (k := 2) FD_is_part Sc_is_part (He.glo_ok X G (c.t.d.fact 2 (f := .glo "is_part") rfl)) (fun _ _ _ _ _ _ us hl => match us, hl with | [_, _, _, _], _ => rfl) rfl (fun cdv A o s H E hr => W_is_part g D_is_whole D_is_rising cdv A o s H E hr) B_is_part
    have D_is_way : Df (PySem.Challenge.rw_turnedshares_k12_texts_spoilt).prog w base ⟨K, mg, Tabs (tabT K Hd.tf)⟩ 4 "is_way" 3 F_is_way := Df.of (Z := ⟨K, mg, Tabs (tabT K Hd.tf)⟩) (k := 3) FD_is_way Sc_is_way (He.glo_ok X G (c.t.d.fact 3 (f := .glo "is_way") rfl)) (fun _ _ _ _ _ _ us hl => match us, hl with | [_, _, _], _ => rfl) rfl (fun cdv A o s H E hr => W_is_way g D_is_part cdv A o s H E hr) B_is_way
    have D_way_of : Df (PySem.Challenge.rw_turnedshares_k12_texts_spoilt).prog w base ⟨K, mg, Tabs (tabT K Hd.tf)⟩ 5 "way_of" 1 F_way_of := Df.of (Z := ⟨K, mg, Tabs (tabT K Hd.tf)⟩) (k := 4) FD_way_of Sc_way_of (He.glo_ok X G (c.t.d.fact 7 (f := .glo "way_of") rfl)) (fun _ _ _ _ _ _ us hl => match us, hl with | [_], _ => rfl) rfl (fun cdv A o s H E hr => W_way_of g D_number_of D_is_way cdv A o s H E hr) B_way_of
    have D_has_house : Df (PySem.Challenge.rw_turnedshares_k12_texts_spoilt).prog w base ⟨K, mg, Tabs (tabT K Hd.tf)⟩ 5 "has_house" 1 F_has_house := Df.of (Z := ⟨K, mg, Tabs (tabT K Hd.tf)⟩) (k := 4) FD_has_house Sc_has_house (He.glo_ok X G (c.t.d.fact 4 (f := .glo "has_house") rfl)) (fun _ _ _ _ _ _ us hl => match us, hl with | [_], _ => rfl) rfl (fun cdv A o s H E hr => W_has_house g D_is_whole D_is_way cdv A o s H E hr) B_has_house
    have D_read_house : Df (PySem.Challenge.rw_turnedshares_k12_texts_spoilt).prog w base ⟨K, mg, Tabs (tabT K Hd.tf)⟩ 6 "read_house" 1 F_read_house := Df.of (Z := ⟨K, mg, Tabs (tabT K Hd.tf)⟩) (k := 5) FD_read_house Sc_read_house (He.glo_ok X G (c.t.d.fact 8 (f := .glo "read_house") rfl)) (fun _ _ _ _ _ _ us hl => match us, hl with | [_], _ => rfl) rfl (fun cdv A o s H E hr => W_read_house g x_InvalidText D_size_of D_way_of D_has_house cdv A o s H E hr) B_read_house
    have D_law_read_so : Df (PySem.Challenge.rw_turnedshares_k12_texts_spoilt).prog w base ⟨K, mg, Tabs (tabT K Hd.tf)⟩ 7 "_law_read_so" 1 F_law_read_so := Df.of (Z := ⟨K, mg, Tabs (tabT K Hd.tf)⟩) (k := 6) FD_law_read_so Sc_law_read_so (He.glo_ok X G (c.t.d.fact 21 (f := .glo "_law_read_so") rfl)) (fun _ _ _ _ _ _ us hl => match us, hl with | [_], _ => rfl) rfl (fun cdv A o s H E hr => W_law_read_so g D_read_house cdv A o s H E hr) B_law_read_so
    have D_law_number : Df (PySem.Challenge.rw_turnedshares_k12_texts_spoilt).prog w base ⟨K, mg, Tabs (tabT K Hd.tf)⟩ 1 "_law_number" 1 F_law_number := Df.of (Z := ⟨K, mg, Tabs (tabT K Hd.tf)⟩) (k := 0) FD_law_number Sc_law_number (He.glo_ok X G (c.t.d.fact 23 (f := .glo "_law_number") rfl)) (fun _ _ _ _ _ _ us hl => match us, hl with | [_], _ => rfl) rfl (fun cdv A o s H E hr => W_law_number g cdv A o s H E hr) B_law_number
    have D_law_line_of : Df (PySem.Challenge.rw_turnedshares_k12_texts_spoilt).prog w base ⟨K, mg, Tabs (tabT K Hd.tf)⟩ 2 "_law_line_of" 1 F_law_line_of := Df.of (Z := ⟨K, mg, Tabs (tabT K Hd.tf)⟩) (k := 1) FD_law_line_of Sc_law_line_of (He.glo_ok X G (c.t.d.fact 24 (f := .glo "_law_line_of") rfl)) (fun _ _ _ _ _ _ us hl => match us, hl with | [_], _ => rfl) rfl (fun cdv A o s H E hr => W_law_line_of g D_law_number cdv A o s H E hr) B_law_line_of
    have D_law_is_whole : Df (PySem.Challenge.rw_turnedshares_k12_texts_spoilt).prog w base ⟨K, mg, Tabs (tabT K Hd.tf)⟩ 1 "_law_is_whole" 3 F_law_is_whole := Df.of (Z := ⟨K, mg, Tabs (tabT K Hd.tf)⟩) (k := 0) FD_law_is_whole Sc_law_is_whole (He.glo_ok X G (c.t.d.fact 12 (f := .glo "_law_is_whole") rfl)) (fun _ _ _ _ _ _ us hl => match us, hl with | [_, _, _], _ => rfl) rfl (fun cdv A o s H E hr => W_law_is_whole g cdv A o s H E hr) B_law_is_whole
    have D_law_part_names : Df (PySem.Challenge.rw_turnedshares_k12_texts_spoilt).prog w base ⟨K, mg, Tabs (tabT K Hd.tf)⟩ 1 "_law_part_names" 0 F_law_part_names := Df.of (Z := ⟨K, mg, Tabs (tabT K Hd.tf)⟩) (k := 0) FD_law_part_names Sc_law_part_names (He.glo_ok X G (c.t.d.fact 15 (f := .glo "_law_part_names") rfl)) (fun _ _ _ _ _ _ us hl => match us, hl with | [], _ => rfl) rfl (fun cdv A o s H E hr => W_law_part_names g cdv A o s H E hr) B_law_part_names
    have D_law_kinds_good : Df (PySem.Challenge.rw_turnedshares_k12_texts_spoilt).prog w base ⟨K, mg, Tabs (tabT K Hd.tf)⟩ 2 "_law_kinds_good" 1 F_law_kinds_good := Df.of (Z := ⟨K, mg, Tabs (tabT K Hd.tf)⟩) (k := 1) FD_law_kinds_good Sc_law_kinds_good (He.glo_ok X G (c.t.d.fact 13 (f := .glo "_law_kinds_good") rfl)) (fun _ _ _ _ _ _ us hl => match us, hl with | [_], _ => rfl) rfl (fun cdv A o s H E hr => W_law_kinds_good g D_law_is_whole cdv A o s H E hr) B_law_kinds_good
    have D_law_good_part : Df (PySem.Challenge.rw_turnedshares_k12_texts_spoilt).prog w base ⟨K, mg, Tabs (tabT K Hd.tf)⟩ 3 "_law_good_part" 4 F_law_good_part := Df.of (Z := ⟨K, mg, Tabs (tabT K Hd.tf)⟩) (k := 2) FD_law_good_part Sc_law_good_part (He.glo_ok X G (c.t.d.fact 14 (f := .glo "_law_good_part") rfl)) (fun _ _ _ _ _ _ us hl => match us, hl with | [_, _, _, _], _ => rfl) rfl (fun cdv A o s H E hr => W_law_good_part g D_law_is_whole D_law_kinds_good cdv A o s H E hr) B_law_good_part
    have D_law_is_house : Df (PySem.Challenge.rw_turnedshares_k12_texts_spoilt).prog w base ⟨K, mg, Tabs (tabT K Hd.tf)⟩ 4 "_law_is_house" 1 F_law_is_house := Df.of (Z := ⟨K, mg, Tabs (tabT K Hd.tf)⟩) (k := 3) FD_law_is_house Sc_law_is_house (He.glo_ok X G (c.t.d.fact 16 (f := .glo "_law_is_house") rfl)) (fun _ _ _ _ _ _ us hl => match us, hl with | [_], _ => rfl) rfl (fun cdv A o s H E hr => W_law_is_house g D_law_is_whole D_law_part_names D_law_good_part cdv A o s H E hr) B_law_is_house
    have D_law_due : Df (PySem.Challenge.rw_turnedshares_k12_texts_spoilt).prog w base ⟨K, mg, Tabs (tabT K Hd.tf)⟩ 5 "_law_due" 1 F_law_due := Df.of (Z := ⟨K, mg, Tabs (tabT K Hd.tf)⟩) (k := 4) FD_law_due Sc_law_due (He.glo_ok X G (c.t.d.fact 25 (f := .glo "_law_due") rfl)) (fun _ _ _ _ _ _ us hl => match us, hl with | [_], _ => rfl) rfl (fun cdv A o s H E hr => W_law_due g D_law_line_of D_law_is_house cdv A o s H E hr) B_law_due
    have D_law_spoilt : Df (PySem.Challenge.rw_turnedshares_k12_texts_spoilt).prog w base ⟨K, mg, Tabs (tabT K Hd.tf)⟩ 3 "_law_spoilt" 2 F_law_spoilt := Df.of (Z := ⟨K, mg, Tabs (tabT K Hd.tf)⟩) (k := 2) FD_law_spoilt Sc_law_spoilt (He.glo_ok X G (c.t.d.fact 22 (f := .glo "_law_spoilt") rfl)) (fun _ _ _ _ _ _ us hl => match us, hl with | [_, _], _ => rfl) rfl (fun cdv A o s H E hr => W_law_spoilt g D_law_under D_law_some cdv A o s H E hr) B_law_spoilt
    exact Df.ofC (Z := ⟨K, mg, Tabs (tabT K Hd.tf)⟩) (k := 7) (m := 1) FD_law Sc_law rfl (fun cdv A o s H E _ _ hr => W_law g D_law_vat D_law_lines D_law_house D_law_some D_law_odd D_law_read_so D_law_due D_law_spoilt cdv A o s H E hr) B_law
end TS
open PySem PySem.W PySem.Calls PyProof.Rows
set_option maxRecDepth 100000 in
set_option maxHeartbeats 0 in
theorem PySem.Challenge.cw_turnedshares_k12_texts_spoilt_holds : PySem.Challenge.rw_turnedshares_k12_texts_spoilt.Holds := by
  w_on; o_law
  refine HandSHeadRun.head_any (r := OpenLaw.row PySem.Challenge.rw_turnedshares_k12_texts_spoilt) (q := view (OpenLaw.row PySem.Challenge.rw_turnedshares_k12_texts_spoilt).prog [34]) (H := TS.Hd.hk) (ob := TS.Hd.ob) (M := 9000) (loose := TS.Hd.names) (d := HandSHeadRun.topDef (OpenLaw.row PySem.Challenge.rw_turnedshares_k12_texts_spoilt).prog 34) (kwd := []) TS.Hd.ob_eq
    (by kernel_rfl) (fun s => by kernel_rfl) TS.Hd.run (by kernel_rfl) (by kernel_rfl) (by kernel_rfl) (by rfl) (by first | assumption | decide +kernel) (by decide +kernel) ⟨rfl, rfl, rfl, rfl, rfl, by decide +kernel⟩ ?hw ?hc
  case hw => w_witness2
  case hc =>
    refine LamX.walk_ofTsE (l := PySem.Challenge.rw_turnedshares_k12_texts_spoilt) (n := 63) (k := 8) (x := "script") (CX := fun w => L2N.CX (PySem.Challenge.rw_turnedshares_k12_texts_spoilt).prog w) rfl (by decide) (by kernel_rfl) ⟨rfl, by decide, by decide⟩ ?F ?X
    case X => exact fun w H s e s' => TS.cx_none
    case F =>
      intro w mg fa h Y G hmg0
      obtain ⟨K, KX, c⟩ := Y
      have hmg : mg ("law" : PySem.Str) = some (.ref fa) := by
        have e : (HandSHeadRun.topDef (OpenLaw.row PySem.Challenge.rw_turnedshares_k12_texts_spoilt).prog 34).name = ("law" : PySem.Str) := by kernel_rfl
        rw [← e]
        exact hmg0
      exact ⟨K, KX, TS.facts KX G hmg c⟩
